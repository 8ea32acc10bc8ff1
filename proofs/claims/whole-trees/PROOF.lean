import PyProof.Rows.All
import Wide.All
import OpenK.AllK
import Wide.FinOn
import HandS.ForMost
import HandS.Defaults
import HandS.IsInst
import HandS.Deep
import HandS.Zip
import HandS.Rev
import HandS.TupAny
import HandS.TupMul
import KE.KDictKeyed
import KE.KDictLaw
import KE.DatumIndex
import HandS.StrMore
import KE.KDictList
import HandS.Conv
import HandS.Replace
import KE.GoesMore
import KE.GoesNew
import KE.KStateDown
import HandS.Head0
import HandS.Head1
import HandS.Head2
import HandS.HeadEnd
import HandS.HeadHook1
import HandS.HeadHook2
import KE.BitLaws
import HandS.Codes
import PyProof.Rows.RegFStrParts
import PyProof.Rows.ReprShort
import PySem.Challenge.RW_deedrow_k36_whole_trees
set_option Elab.async false
set_option linter.all false
set_option maxRecDepth 100000
set_option autoImplicit false
/-! Dl1: data over the layer: what a slot holds (Rs), what holds of slots and heap (Good), expressions, tests and argument lists by what they give as data (EW, TW, EA). -/
namespace Dl
open PySem PySem.Spec PyProof.Rows L2

/-! ### data in the heap: tuples, ints, texts, truths, None -/
mutual
inductive DT (H : Hp) : V → PyData → Prop
  | non : DT H .non .none
  | bl (b : Bool) : DT H (.bl b) (.bool b)
  | int (i : Int) : DT H (.int i) (.int i)
  | str (x : Str) (h : PyData.strOk x = true) : DT H (.str x) (.str x)
  | tup {a : Addr} {xs : List V} {ds : List PyData} : H a = some (.tup xs) → DTs H xs ds → DT H (.ref a) (.tuple ds)
inductive DTs (H : Hp) : List V → List PyData → Prop
  | nil : DTs H [] []
  | cons {x : V} {xs : List V} {d : PyData} {ds : List PyData} : DT H x d → DTs H xs ds → DTs H (x :: xs) (d :: ds)
end
def Tx (H H' : Hp) : Prop := ∀ a xs, H a = some (.tup xs) → H' a = some (.tup xs)
mutual
theorem DT.mono {H H' : Hp} (e : Tx H H') : ∀ {v : V} {d : PyData}, DT H v d → DT H' v d
  | _, _, .non => .non
  | _, _, .bl b => .bl b
  | _, _, .int i => .int i
  | _, _, .str x h => .str x h
  | _, _, .tup h hs => .tup (e _ _ h) (DTs.mono e hs)
theorem DTs.mono {H H' : Hp} (e : Tx H H') : ∀ {vs : List V} {ds : List PyData}, DTs H vs ds → DTs H' vs ds
  | _, _, .nil => .nil
  | _, _, .cons h hs => .cons (DT.mono e h) (DTs.mono e hs)
end
section
variable {H : Hp} {v : V} {vs ws : List V} {d : PyData} {ds es : List PyData}
theorem DTs.length : ∀ {vs : List V} {ds : List PyData}, DTs H vs ds → vs.length = ds.length
  | _, _, .nil => rfl
  | _, _, .cons _ t => by rw [List.length_cons, List.length_cons, DTs.length t]
theorem DTs.get : ∀ {vs : List V} {ds : List PyData} {i : Nat} {d : PyData}, DTs H vs ds → ds[i]? = some d → ∃ v, vs[i]? = some v ∧ DT H v d
  | _, _, _, _, .nil, e => by simp at e
  | _, _, 0, _, .cons h _, e => ⟨_, rfl, by rw [← Option.some.inj e]; exact h⟩
  | _, _, i + 1, _, .cons _ t, e => DTs.get (i := i) t (by simpa using e)
theorem DTs.get' : ∀ {vs : List V} {ds : List PyData} {i : Nat} {v : V}, DTs H vs ds → vs[i]? = some v → ∃ d, ds[i]? = some d ∧ DT H v d
  | _, _, _, _, .nil, e => by simp at e
  | _, _, 0, _, .cons h _, e => ⟨_, rfl, by rw [← Option.some.inj e]; exact h⟩
  | _, _, i + 1, _, .cons _ t, e => DTs.get' (i := i) t (by simpa using e)
theorem DTs.append : ∀ {vs ws : List V} {ds es : List PyData}, DTs H vs ds → DTs H ws es → DTs H (vs ++ ws) (ds ++ es)
  | _, _, _, _, .nil, s => s
  | _, _, _, _, .cons h t, s => .cons h (DTs.append t s)
theorem DTs.take : ∀ {vs : List V} {ds : List PyData} (n : Nat), DTs H vs ds → DTs H (vs.take n) (ds.take n)
  | _, _, 0, _ => .nil
  | _, _, _ + 1, .nil => .nil
  | _, _, n + 1, .cons r t => .cons r (DTs.take n t)
theorem DTs.drop : ∀ {vs : List V} {ds : List PyData} (n : Nat), DTs H vs ds → DTs H (vs.drop n) (ds.drop n)
  | _, _, 0, r => r
  | _, _, _ + 1, .nil => .nil
  | _, _, n + 1, .cons _ t => DTs.drop n t
theorem DTs.set {x : V} (h : DT H x d) : ∀ {vs : List V} {ds : List PyData} (i : Nat), DTs H vs ds → DTs H (vs.set i x) (ds.set i d)
  | _, _, _, .nil => .nil
  | _, _, 0, .cons _ t => .cons h t
  | _, _, i + 1, .cons r t => .cons r (DTs.set h i t)
theorem DTs.reverse : ∀ {vs : List V} {ds : List PyData}, DTs H vs ds → DTs H vs.reverse ds.reverse
  | _, _, .nil => .nil
  | _, _, .cons h t => by
    rw [List.reverse_cons, List.reverse_cons]
    exact (DTs.reverse t).append (.cons h .nil)
theorem DTs.rep (h : DTs H vs ds) : ∀ k : Nat, DTs H (List.replicate k vs).flatten (List.replicate k ds).flatten
  | 0 => .nil
  | k + 1 => by
    rw [List.replicate_succ, List.replicate_succ, List.flatten_cons, List.flatten_cons]
    exact h.append (DTs.rep h k)
theorem DTs.dropLast (h : DTs H vs ds) : DTs H vs.dropLast ds.dropLast := by
  rw [List.dropLast_eq_take, List.dropLast_eq_take, h.length]
  exact h.take _
mutual
theorem DT.dp {K : PySem.W.Frag} {H : Hp} : ∀ {v : V} {d : PyData}, DT H v d → Dp K H v d
  | _, _, .non => .non
  | _, _, .bl b => .bl b
  | _, _, .int i => .int i
  | _, _, .str x _ => .str x
  | _, _, .tup h hs => .tup (SqT.of h) (DTs.dp hs)
theorem DTs.dp {K : PySem.W.Frag} {H : Hp} : ∀ {vs : List V} {ds : List PyData}, DTs H vs ds → DpAll K H vs ds
  | _, _, .nil => .nil
  | _, _, .cons h hs => .cons (DT.dp h) (DTs.dp hs)
end
mutual
theorem DT.lay {H : Hp} : ∀ {v : V} {d : PyData}, DT H v d → d.canLay0 = true
  | _, _, .non => rfl
  | _, _, .bl _ => rfl
  | _, _, .int _ => rfl
  | _, _, .str _ h => h
  | _, _, .tup _ hs => DTs.lay hs
theorem DTs.lay {H : Hp} : ∀ {vs : List V} {ds : List PyData}, DTs H vs ds → PyData.canLayAll0 ds = true
  | _, _, .nil => rfl
  | _, _, .cons h hs => Bool.and_eq_true_iff.mpr ⟨DT.lay h, DTs.lay hs⟩
end
/-- a place of a list, as data and as values -/
theorem DTs.ats (h : DTs H vs ds) {i : Int} (e : atI ds i = some d) : ∃ v, atI vs i = some v ∧ DT H v d := by
  unfold atI at e ⊢
  rw [h.length]
  cases q : ixN ds.length i with
  | none => rw [q] at e; cases e
  | some j =>
    rw [q] at e
    exact h.get e
end

/-! ### what a slot holds -/
inductive Rs where
  /-- data -/
  | d (x : PyData)
  /-- a list of data that is ours alone | one that is only read -/
  | l (xs : List PyData) | r (xs : List PyData)
  /-- the list that is drawn from | the script | a dict -/
  | w | s | t (kvs : List (PyData × PyData))
  /-- a text of any signs -/
  | x (y : Str)
  /-- not known -/
  | u
structure Pm where
  K : PySem.W.Frag
  ns : List Int
  w : World
structure Cn where
  pm : Pm
  H_0 : Hp
  dr : Option Addr
  scr : Addr
mutual
/-- a key of texts, numbers, None and tuples of such, as the library has keys -/
def nk : PyData → NestedKey
  | .none => .none
  | .bool b => .num (if b = true then 1 else 0)
  | .int i => .num i
  | .str x => .text x
  | .list _ => .none
  | .tuple ds => .tup (nks ds)
  | .dict _ => .none
def nks : List PyData → List NestedKey
  | [] => []
  | d :: ds => nk d :: nks ds
end
mutual
/-- a key: texts and tuples of such -/
def keyD : PyData → Bool
  | .str _ => true
  | .tuple ds => keysD ds
  | _ => false
def keysD : List PyData → Bool
  | [] => true
  | d :: ds => keyD d && keysD ds
end
/-- keys, their addresses, values -/
def trip : List (Addr × V) → List (PyData × PyData) → List Value → List (NestedKey × Addr × Value)
  | q :: qs, kv :: kvs, u :: us => (nk kv.1, q.1, u) :: trip qs kvs us
  | _, _, _ => []
/-- the object at p is the dict of these pairs -/
def DicIn (w : World) (p : Addr) (qs : List (Addr × V)) (kvs : List (PyData × PyData)) (h : Heap) : Prop := (p == sysModules) = false ∧ ∃ (us : List Value) (o : Obj) (es : Array DictEntry) (ep : Nat),
  Vals (qs.map (·.2)) us ∧ h.get? p = some o ∧ o.ExactDict ∧ o.data = .dict es ep ∧ es.toList = (storedAllH [] (trip qs kvs us)).map (fun x => (⟨x.1.hash w, .ref x.2.1, x.2.2⟩ : DictEntry)) ∧ ((storedAllH [] (trip qs kvs us)).map (·.1)).Nodup
def PairOk (H : Hp) (q : Addr × V) (kv : PyData × PyData) : Prop := DT H (.ref q.1) kv.1 ∧ DT H q.2 kv.2 ∧ keyD kv.1 = true ∧ kv.1.depth ≤ 8
theorem PairOk.mono {H H' : Hp} {q : Addr × V} {kv : PyData × PyData} (x : Tx H H') (h : PairOk H q kv) : PairOk H' q kv := ⟨h.1.mono x, h.2.1.mono x, h.2.2⟩
/-- a dict of these pairs in the abstract heap -/
def IsDic (w : World) (H : Hp) (p : Addr) (kvs : List (PyData × PyData)) : Prop := ∃ qs, H p = some (.ext (DicIn w p qs kvs)) ∧ Paired (PairOk H) qs kvs
def Rep (C : Cn) (H : Hp) : Rs → V → Prop
  | .d x, v => DT H v x
  | .l xs, v => ∃ p vs, v = .ref p ∧ C.dr ≠ some p ∧ H p = some (.lst vs) ∧ DTs H vs xs
  | .r xs, v => ∃ p vs, v = .ref p ∧ C.dr ≠ some p ∧ H p = some (.lst vs) ∧ DTs H vs xs
  | .w, v => ∃ p, v = .ref p ∧ C.dr = some p
  | .s, v => v = .ref C.scr
  | .t kvs, v => ∃ p, v = .ref p ∧ IsDic C.pm.w H p kvs
  | .x y, v => v = .str y
  | .u, _ => True
def isL : Rs → Bool
  | .l _ => true
  | .r _ => true
  | _ => false
/-- a new list -/
def Fresh (H : Hp) (r : Rs) (v : V) : Prop := match r with
  | .l _ => ∀ p, v = .ref p → H p = none
  | _ => True
def bor : Rs → Rs
  | .l xs => .r xs
  | r => r

/-! ### heaps -/
def Dr (C : Cn) (n : Int) (H : Hp) : Prop := ∀ p, C.dr = some p → H p = some (.lst [.ref C.scr, .int n])
def Keep (C : Cn) (H H' : Hp) : Prop := ∀ a o, H a = some o → C.dr ≠ some a → H' a = some o
/-- the script is an object of the text -/
def LitL (C : Cn) : Prop := ∃ (o : Obj) (its : Array Value) (n : Nat), C.pm.K.lookup C.scr = some o ∧ o.cls = .type "list" ∧ o.dict = none ∧ o.data = .seq its n ∧ its.size ≤ sizeLine ∧ Vals (C.pm.ns.map V.int) its.toList
structure Frm (C : Cn) (n : Int) (H : Hp) : Prop where
  fr : ∀ a o, C.H_0 a = some o → C.dr ≠ some a → H a = some o
  sc : SqL C.pm.K C.H_0 C.scr (C.pm.ns.map V.int)
  dr : Dr C n H
  sd : C.dr ≠ some C.scr ∨ LitL C
section
variable {C : Cn} {n n' n1 n2 : Int} {H H' H1 H2 : Hp} {r : Rs} {v : V}
theorem Keep.refl (C : Cn) (H : Hp) : Keep C H H := fun _ _ h _ => h
theorem Keep.trans (a : Keep C H H1) (b : Keep C H1 H2) : Keep C H H2 := fun x o h d => b x o (a x o h d) d
theorem Keep.new {p : Addr} {o : HO} (h : H p = none) : Keep C H (upd H p o) := fun a u e _ => by
  rw [upd_ne (ne_of_none e h)]
  exact e
theorem Keep.tx (k : Keep C H H') (d : Dr C n H) : Tx H H' := fun a xs e => k a _ e fun z => by
  rw [d a z] at e
  cases e
theorem Dr.new {p : Addr} {o : HO} (d : Dr C n H) (h : H p = none) : Dr C n (upd H p o) := fun q z => by
  rw [upd_ne (ne_of_none (d q z) h)]
  exact d q z
theorem Keep.fresh (k : Keep C H H') (d : Dr C n H) (d' : Dr C n' H') {p : Addr} (e : H' p = none) : H p = none := by
  cases q : H p with
  | none => rfl
  | some o =>
    by_cases z : C.dr = some p
    · rw [d' p z] at e
      cases e
    · rw [k p o q z] at e
      cases e
theorem Frm.keep (f : Frm C n H) (k : Keep C H H') (d : Dr C n' H') : Frm C n' H' where
  fr := fun a o e z => k a o (f.fr a o e z) z
  sc := f.sc
  dr := d
  sd := f.sd
theorem Frm.scr_at (f : Frm C n H) : SqL C.pm.K H C.scr (C.pm.ns.map V.int) := by
  rcases f.sd with sd | lit
  · rcases f.sc with (h | ⟨o, h⟩) | h
    · exact .inl (.inl (f.fr _ _ h sd))
    · exact .inl (.inr ⟨o, f.fr _ _ h sd⟩)
    · exact .inr h
  · exact .inr lit
theorem Rep.keep (h : Rep C H r v) (k : Keep C H H') (d : Dr C n H) : Rep C H' r v := by
  have x := k.tx d
  cases r with
  | d y => exact DT.mono x h
  | l xs =>
    obtain ⟨p, vs, e, z, q, t⟩ := h
    exact ⟨p, vs, e, z, k p _ q z, t.mono x⟩
  | r xs =>
    obtain ⟨p, vs, e, z, q, t⟩ := h
    exact ⟨p, vs, e, z, k p _ q z, t.mono x⟩
  | w => exact h
  | s => exact h
  | x y => exact h
  | t kvs =>
    obtain ⟨p, e, qs, q, t⟩ := h
    refine ⟨p, e, qs, k p _ q fun z => ?_, Paired.mapP t fun _ _ y => y.mono x⟩
    rw [d p z] at q
    cases q
  | u => exact h
theorem Fresh.back (h : Fresh H1 r v) (k : Keep C H H1) (d : Dr C n H) (d1 : Dr C n1 H1) : Fresh H r v := by
  cases r with
  | l xs => exact fun p e => k.fresh d d1 (h p e)
  | _ => trivial
theorem Rep.bor (h : Rep C H r v) : Rep C H (bor r) v := by
  cases r <;> exact h
theorem Fresh.bor : Fresh H (bor r) v := by
  cases r <;> trivial
end

/-! ### slots -/
structure Good (C : Cn) (G : List Rs) (n : Int) (σ : L2.St) (H : Hp) : Prop where
  frm : Frm C n H
  len : σ.length = G.length
  rep : ∀ (i : Nat) (e : Rs), G[i]? = some e → e ≠ .u → ∃ v, σ[i]? = some (some v) ∧ Rep C H e v
  own : ∀ (i : Nat) (xs : List PyData) (p : Addr), G[i]? = some (.l xs) → σ[i]? = some (some (.ref p)) → C.H_0 p = none ∧ ∀ (j : Nat) (e : Rs), j ≠ i → G[j]? = some e → isL e = true → σ[j]? ≠ some (some (.ref p))
section
variable {C : Cn} {n n' n1 n2 : Int} {H H' H1 H2 : Hp} {r : Rs} {v : V} {G : List Rs} {σ : L2.St}
theorem Good.keep (g : Good C G n σ H) (k : Keep C H H') (d : Dr C n' H') : Good C G n' σ H' where
  frm := g.frm.keep k d
  len := g.len
  rep := fun i e h z => by
    obtain ⟨v, h1, h2⟩ := g.rep i e h z
    exact ⟨v, h1, h2.keep k g.frm.dr⟩
  own := g.own
theorem Good.ltG (g : Good C G n σ H) {i : Nat} {e : Rs} (h : G[i]? = some e) : i < σ.length := by
  rw [g.len]
  exact (List.getElem?_eq_some_iff.mp h).1
/-- a slot is stored: what is stored may be ours only if it is new -/
theorem Good.set (g : Good C G n σ H) {i : Nat} (hi : i < G.length) (rp : Rep C H r v) (fr : ∀ xs, r = .l xs → ∀ p, v = .ref p → C.H_0 p = none ∧ ∀ (j : Nat) (e : Rs), j ≠ i → G[j]? = some e → isL e = true → σ[j]? ≠ some (some (.ref p)))
    (nr : ∀ xs, r = .r xs → ∀ p, v = .ref p → ∀ (j : Nat) (ys : List PyData), j ≠ i → G[j]? = some (.l ys) → σ[j]? ≠ some (some (.ref p))) : Good C (G.set i r) n (σ.set i (some v)) H where
  frm := g.frm
  len := by rw [List.length_set, List.length_set, g.len]
  rep := fun j e h z => by
    by_cases hj : i = j
    · subst hj
      rw [List.getElem?_set_self hi] at h
      cases h
      exact ⟨v, List.getElem?_set_self (by rw [g.len]; exact hi), rp⟩
    · rw [List.getElem?_set_ne hj] at h
      obtain ⟨w, h1, h2⟩ := g.rep j e h z
      exact ⟨w, by rw [List.getElem?_set_ne hj]; exact h1, h2⟩
  own := fun j xs p h hs => by
    by_cases hj : i = j
    · subst hj
      rw [List.getElem?_set_self hi] at h
      rw [List.getElem?_set_self (by rw [g.len]; exact hi)] at hs
      cases hs
      obtain ⟨h1, h2⟩ := fr xs (Option.some.inj h) p rfl
      refine ⟨h1, fun k e hk ek le => ?_⟩
      rw [List.getElem?_set_ne (Ne.symm hk)] at ek ⊢
      exact h2 k e hk ek le
    · rw [List.getElem?_set_ne hj] at h hs
      obtain ⟨h1, h2⟩ := g.own j xs p h hs
      refine ⟨h1, fun k e hk ek le => ?_⟩
      by_cases hik : i = k
      · subst hik
        rw [List.getElem?_set_self hi] at ek
        rw [List.getElem?_set_self (by rw [g.len]; exact hi)]
        cases ek
        intro ez
        have ev : v = .ref p := Option.some.inj (Option.some.inj ez)
        cases r with
        | l ys => exact (fr ys rfl p ev).2 j _ (Ne.symm hj) h rfl hs
        | r ys => exact nr ys rfl p ev j xs (Ne.symm hj) h hs
        | _ => cases le
      · rw [List.getElem?_set_ne hik] at ek ⊢
        exact h2 k e hk ek le
/-- data is stored -/
theorem Good.setD (g : Good C G n σ H) {i : Nat} {x : PyData} (hi : i < G.length) (rp : DT H v x) : Good C (G.set i (.d x)) n (σ.set i (some v)) H :=
  g.set hi (show Rep C H (.d x) v from rp) (fun _ e => nomatch e) (fun _ e => nomatch e)
/-- what lists the slots name is in the heap -/
theorem Good.there (g : Good C G n σ H) {j : Nat} {e : Rs} {p : Addr} (h : G[j]? = some e) (le : isL e = true) (hs : σ[j]? = some (some (.ref p))) : H p ≠ none := by
  have z : e ≠ .u := fun q => by rw [q] at le; cases le
  obtain ⟨v, h1, h2⟩ := g.rep j e h z
  rw [hs] at h1
  cases h1
  cases e with
  | l xs =>
    obtain ⟨q, vs, e1, _, e2, _⟩ := h2
    cases e1
    rw [e2]
    exact fun z => nomatch z
  | r xs =>
    obtain ⟨q, vs, e1, _, e2, _⟩ := h2
    cases e1
    rw [e2]
    exact fun z => nomatch z
  | _ => cases le
/-- a new list, a new anything is stored (its newness told ahead of the heap's growth) -/
theorem Good.setN (g : Good C G n σ H) (k : Keep C H H') (d : Dr C n' H') {i : Nat} (hi : i < G.length) (rp : Rep C H' r v) (fr : Fresh H r v) (hr : ∀ xs, r ≠ .r xs) : Good C (G.set i r) n' (σ.set i (some v)) H' := by
  refine (g.keep k d).set hi rp (fun xs e p ev => ?_) (fun xs e => absurd e (hr xs))
  subst e
  have hp : H p = none := fr p ev
  refine ⟨?_, fun j e hj ej le hs => g.there ej le hs hp⟩
  cases q : C.H_0 p with
  | none => rfl
  | some o =>
    by_cases z : C.dr = some p
    · rw [g.frm.dr p z] at hp
      cases hp
    · rw [g.frm.fr p o q z] at hp
      cases hp
end

/-! ### what an expression, a test, arguments give -/
section
variable (P : Pm)
def EW (te : TE) (G : List Rs) (n : Int) (Q : Rs → Int → Prop) : Prop := ∀ (C : Cn) (σ : L2.St) (H : Hp) (R : VK), C.pm = P → Good C G n σ H →
  (∀ r n' v H', Q r n' → Keep C H H' → Dr C n' H' → Rep C H' r v → Fresh H r v → R v H') → te σ H R
def TW (tt : TT) (G : List Rs) (n : Int) (Q : Bool → Int → Prop) : Prop := ∀ (C : Cn) (σ : L2.St) (H : Hp) (R : Bool → Hp → Prop), C.pm = P → Good C G n σ H →
  (∀ b n' H', Q b n' → Keep C H H' → Dr C n' H' → R b H') → tt σ H R
def EA (ta : TA) (G : List Rs) (n : Int) (Q : List Rs → Int → Prop) : Prop := ∀ (C : Cn) (σ : L2.St) (H : Hp) (R : List V → Hp → Prop), C.pm = P → Good C G n σ H →
  (∀ rs n' vs H', Q rs n' → Keep C H H' → Dr C n' H' → Paired (fun r v => Rep C H' r v ∧ Fresh H r v) rs vs → R vs H') → ta σ H R
/-- two values, one value, many: an operation -/
def OW (r : R2) (x y : Rs) (Q : Rs → Prop) : Prop := ∀ (C : Cn) (n : Int) (H : Hp) (vx vy : V) (R : VK), C.pm = P → Frm C n H → Rep C H x vx → Rep C H y vy →
  (∀ z v H', Q z → Keep C H H' → Dr C n H' → Rep C H' z v → Fresh H z v → R v H') → r vx vy H R
def UW (r : V → Hp → VK → Prop) (x : Rs) (Q : Rs → Prop) : Prop := ∀ (C : Cn) (n : Int) (H : Hp) (vx : V) (R : VK), C.pm = P → Frm C n H → Rep C H x vx →
  (∀ z v H', Q z → Keep C H H' → Dr C n H' → Rep C H' z v → Fresh H z v → R v H') → r vx H R
def CW (r : List V → Hp → VK → Prop) (xs : List Rs) (Q : Rs → Prop) : Prop := ∀ (C : Cn) (n : Int) (H : Hp) (vs : List V) (R : VK), C.pm = P → Frm C n H → Paired (Rep C H) xs vs →
  (∀ z v H', Q z → Keep C H H' → Dr C n H' → Rep C H' z v → Fresh H z v → R v H') → r vs H R
end
/-- a branch -/
def Br (b : Bool) (A B : Prop) : Prop := if b = true then A else B
theorem br_t {b : Bool} {A B : Prop} (h : b = true) (a : A) : Br b A B := by
  unfold Br
  rw [if_pos h]
  exact a
theorem br_f {b : Bool} {A B : Prop} (h : b = false) (a : B) : Br b A B := by
  unfold Br
  rw [h, if_neg Bool.false_ne_true]
  exact a
theorem br_2 {b : Bool} {A B : Prop} (h1 : b = true → A) (h2 : b = false → B) : Br b A B := by
  cases b with
  | true => exact br_t rfl (h1 rfl)
  | false => exact br_f rfl (h2 rfl)
theorem br_or {b : Bool} {A B : Prop} (h : Br b A B) : (b = true ∧ A) ∨ (b = false ∧ B) := by
  cases b with
  | true => exact .inl ⟨rfl, by unfold Br at h; rwa [if_pos rfl] at h⟩
  | false => exact .inr ⟨rfl, by unfold Br at h; rwa [if_neg Bool.false_ne_true] at h⟩
section
variable {P : Pm} {G : List Rs} {n : Int} {ta tb tc te : TE} {tt uu : TT} {tr : TA} {Q : Rs → Int → Prop} {QB : Bool → Int → Prop} {QA : List Rs → Int → Prop}
theorem ew_var {i : Nat} {r : Rs} (h : G[i]? = some r) (hu : r ≠ .u) (q : Q (bor r) n) : EW P (tVar i) G n Q := fun C σ H R _ g k => by
  obtain ⟨v, h1, h2⟩ := g.rep i r h hu
  exact ⟨v, h1, k _ n v H q (Keep.refl C H) g.frm.dr h2.bor Fresh.bor⟩
theorem ew_int {i : Int} (q : Q (.d (.int i)) n) : EW P (tC (.int i)) G n Q := fun C σ H R _ g k => k _ n _ H q (Keep.refl C H) g.frm.dr (show DT H _ _ from .int i) trivial
theorem ew_str {x : Str} (h : PyData.strOk x = true) (q : Q (.d (.str x)) n) : EW P (tC (.str x)) G n Q := fun C σ H R _ g k => k _ n _ H q (Keep.refl C H) g.frm.dr (show DT H _ _ from .str x h) trivial
theorem ew_bl {b : Bool} (q : Q (.d (.bool b)) n) : EW P (tC (.bl b)) G n Q := fun C σ H R _ g k => k _ n _ H q (Keep.refl C H) g.frm.dr (show DT H _ _ from .bl b) trivial
theorem ew_non (q : Q (.d .none) n) : EW P (tC .non) G n Q := fun C σ H R _ g k => k _ n _ H q (Keep.refl C H) g.frm.dr (show DT H _ _ from .non) trivial
theorem ew_op {r : R2} (h : EW P ta G n fun x n1 => EW P tb G n1 fun y n2 => OW P r x y fun z => Q z n2) : EW P (tOp r ta tb) G n Q := fun C σ H R hP g k =>
  h C σ H _ hP g fun x n1 vx H1 q1 k1 d1 r1 _ => q1 C σ H1 _ hP (g.keep k1 d1) fun y n2 vy H2 q2 k2 d2 r2 _ =>
    q2 C n2 H2 vx vy R hP ((g.keep k1 d1).keep k2 d2).frm (r1.keep k2 d1) r2 fun z v H3 qz k3 d3 r3 f3 =>
      k z n2 v H3 qz ((k1.trans k2).trans k3) d3 r3 (f3.back (k1.trans k2) g.frm.dr d2)
theorem ew_un {r : V → Hp → VK → Prop} (h : EW P ta G n fun x n1 => UW P r x fun z => Q z n1) : EW P (tUn r ta) G n Q := fun C σ H R hP g k =>
  h C σ H _ hP g fun x n1 vx H1 q1 k1 d1 r1 _ => q1 C n1 H1 vx R hP (g.keep k1 d1).frm r1 fun z v H3 qz k3 d3 r3 f3 => k z n1 v H3 qz (k1.trans k3) d3 r3 (f3.back k1 g.frm.dr d1)
theorem ea_nil (q : QA [] n) : EA P tNil G n QA := fun C σ H R _ g k => k [] n [] H q (Keep.refl C H) g.frm.dr .nil
theorem paired_imp {α β : Type} {F F' : α → β → Prop} {l : List α} {m : List β} (h : Paired F l m) (f : ∀ a b, F a b → F' a b) : Paired F' l m := Paired.mapP h f
theorem ea_cons (h : EW P te G n fun x n1 => EA P tr G n1 fun xs n2 => QA (x :: xs) n2) : EA P (tCons te tr) G n QA := fun C σ H R hP g k =>
  h C σ H _ hP g fun x n1 vx H1 q1 k1 d1 r1 f1 => q1 C σ H1 _ hP (g.keep k1 d1) fun xs n2 vs H2 q2 k2 d2 r2 =>
    k (x :: xs) n2 (vx :: vs) H2 q2 (k1.trans k2) d2 (.cons ⟨r1.keep k2 d1, f1⟩ (paired_imp r2 fun _ _ z => ⟨z.1, z.2.back k1 g.frm.dr d1⟩))
theorem ew_cb {r : List V → Hp → VK → Prop} (h : EA P tr G n fun xs n1 => CW P r xs fun z => Q z n1) : EW P (tCB r tr) G n Q := fun C σ H R hP g k =>
  h C σ H _ hP g fun xs n1 vs H1 q1 k1 d1 r1 => q1 C n1 H1 vs R hP (g.keep k1 d1).frm (paired_imp r1 fun _ _ z => z.1) fun z v H3 qz k3 d3 r3 f3 =>
    k z n1 v H3 qz (k1.trans k3) d3 r3 (f3.back k1 g.frm.dr d1)
/-! tests -/
theorem rep_bl {C : Cn} {H : Hp} {r : Rs} {v : V} {b : Bool} (h : Rep C H r v) (e : r = .d (.bool b)) : v = .bl b := by
  subst e
  cases (show DT H v (.bool b) from h)
  rfl
theorem tw_test (h : EW P te G n fun x n1 => ∃ b, x = .d (.bool b) ∧ QB b n1) : TW P (tTest te) G n QB := fun C σ H R hP g k =>
  h C σ H _ hP g fun x n1 v H1 q1 k1 d1 r1 _ => by
    obtain ⟨b, e, q⟩ := q1
    exact ⟨b, rep_bl r1 e, k b n1 H1 q k1 d1⟩
theorem tw_B (h : EW P te G n fun x n1 => ∃ b, x = .d (.bool b) ∧ QB b n1) : TW P (tB te) G n QB := fun C σ H R hP g k =>
  h C σ H _ hP g fun x n1 v H1 q1 k1 d1 r1 _ => by
    obtain ⟨b, e, q⟩ := q1
    exact ⟨b, rep_bl r1 e, k b n1 H1 q k1 d1⟩
theorem tw_and (h : TW P tt G n fun b n1 => Br b (TW P uu G n1 QB) (QB false n1)) : TW P (tAnd tt uu) G n QB := fun C σ H R hP g k =>
  h C σ H _ hP g fun b n1 H1 q1 k1 d1 => by
    rcases br_or q1 with ⟨rfl, q⟩ | ⟨rfl, q⟩
    · exact q C σ H1 _ hP (g.keep k1 d1) fun b2 n2 H2 q2 k2 d2 => k b2 n2 H2 q2 (k1.trans k2) d2
    · exact k false n1 H1 q k1 d1
theorem tw_or (h : TW P tt G n fun b n1 => Br b (QB true n1) (TW P uu G n1 QB)) : TW P (tOr tt uu) G n QB := fun C σ H R hP g k =>
  h C σ H _ hP g fun b n1 H1 q1 k1 d1 => by
    rcases br_or q1 with ⟨rfl, q⟩ | ⟨rfl, q⟩
    · exact k true n1 H1 q k1 d1
    · exact q C σ H1 _ hP (g.keep k1 d1) fun b2 n2 H2 q2 k2 d2 => k b2 n2 H2 q2 (k1.trans k2) d2
theorem tw_not (h : TW P tt G n fun b n1 => QB (!b) n1) : TW P (tNot tt) G n QB := fun C σ H R hP g k =>
  h C σ H _ hP g fun b n1 H1 q1 k1 d1 => k (!b) n1 H1 q1 k1 d1
theorem tw_yes (h : QB true n) : TW P tYes G n QB := fun C σ H R _ g k => k true n H h (Keep.refl C H) g.frm.dr
theorem ew_andV (h : EW P ta G n fun x n1 => ∃ b, x = .d (.bool b) ∧ Br b (EW P tb G n1 Q) (Q (.d (.bool false)) n1)) : EW P (tAndV ta tb) G n Q := fun C σ H R hP g k =>
  h C σ H _ hP g fun x n1 v H1 q1 k1 d1 r1 _ => by
    obtain ⟨b, e, q⟩ := q1
    refine ⟨b, rep_bl r1 e, ?_⟩
    rcases br_or q with ⟨rfl, q⟩ | ⟨rfl, q⟩
    · exact q C σ H1 _ hP (g.keep k1 d1) fun z n2 v2 H2 q2 k2 d2 r2 f2 => k z n2 v2 H2 q2 (k1.trans k2) d2 r2 (f2.back k1 g.frm.dr d1)
    · exact k _ n1 _ H1 q k1 d1 (show DT H1 _ _ from .bl false) trivial
theorem ew_orV (h : EW P ta G n fun x n1 => ∃ b, x = .d (.bool b) ∧ Br b (Q (.d (.bool true)) n1) (EW P tb G n1 Q)) : EW P (tOrV ta tb) G n Q := fun C σ H R hP g k =>
  h C σ H _ hP g fun x n1 v H1 q1 k1 d1 r1 _ => by
    obtain ⟨b, e, q⟩ := q1
    refine ⟨b, rep_bl r1 e, ?_⟩
    rcases br_or q with ⟨rfl, q⟩ | ⟨rfl, q⟩
    · exact k _ n1 _ H1 q k1 d1 (show DT H1 _ _ from .bl true) trivial
    · exact q C σ H1 _ hP (g.keep k1 d1) fun z n2 v2 H2 q2 k2 d2 r2 f2 => k z n2 v2 H2 q2 (k1.trans k2) d2 r2 (f2.back k1 g.frm.dr d1)
theorem ew_notV (h : EW P ta G n fun x n1 => ∃ b, x = .d (.bool b) ∧ Q (.d (.bool !b)) n1) : EW P (tNotV ta) G n Q := fun C σ H R hP g k =>
  h C σ H _ hP g fun x n1 v H1 q1 k1 d1 r1 _ => by
    obtain ⟨b, e, q⟩ := q1
    exact ⟨b, rep_bl r1 e, k _ n1 _ H1 q k1 d1 (show DT H1 _ _ from .bl !b) trivial⟩
theorem ew_if (h : TW P tt G n fun b n1 => Br b (EW P ta G n1 Q) (EW P tb G n1 Q)) : EW P (tIf tt ta tb) G n Q := fun C σ H R hP g k =>
  h C σ H _ hP g fun b n1 H1 q1 k1 d1 => by
    rcases br_or q1 with ⟨rfl, q⟩ | ⟨rfl, q⟩
    · exact q C σ H1 _ hP (g.keep k1 d1) fun z n2 v2 H2 q2 k2 d2 r2 f2 => k z n2 v2 H2 q2 (k1.trans k2) d2 r2 (f2.back k1 g.frm.dr d1)
    · exact q C σ H1 _ hP (g.keep k1 d1) fun z n2 v2 H2 q2 k2 d2 r2 f2 => k z n2 v2 H2 q2 (k1.trans k2) d2 r2 (f2.back k1 g.frm.dr d1)
/-- a chain of two comparisons -/
theorem ew_chain {r r' : R2} (h : EW P ta G n fun x n1 => EW P tb G n1 fun y n2 => OW P r x y fun z => ∃ b, z = .d (.bool b) ∧ Br b (EW P tc G n2 fun z' n3 => OW P r' y z' fun z2 => Q z2 n3) (Q (.d (.bool false)) n2)) :
    EW P (tChain r r' ta tb tc) G n Q := fun C σ H R hP g k =>
  h C σ H _ hP g fun x n1 vx H1 q1 k1 d1 r1 _ => q1 C σ H1 _ hP (g.keep k1 d1) fun y n2 vy H2 q2 k2 d2 r2 _ =>
    q2 C n2 H2 vx vy _ hP ((g.keep k1 d1).keep k2 d2).frm (r1.keep k2 d1) r2 fun z v H3 qz k3 d3 r3 f3 => by
      obtain ⟨b, e, q⟩ := qz
      refine ⟨b, rep_bl r3 e, ?_⟩
      have g3 := ((g.keep k1 d1).keep k2 d2).keep k3 d3
      have k03 := (k1.trans k2).trans k3
      rcases br_or q with ⟨rfl, q⟩ | ⟨rfl, q⟩
      · exact q C σ H3 _ hP g3 fun z' n4 v4 H4 q4 k4 d4 r4 f4 => q4 C n4 H4 vy v4 R hP (g3.keep k4 d4).frm ((r2.keep k3 d2).keep k4 d3) r4 fun z5 v5 H5 q5 k5 d5 r5 f5 =>
          k z5 n4 v5 H5 q5 ((k03.trans k4).trans k5) d5 r5 (f5.back (k03.trans k4) g.frm.dr d4)
      · exact k _ n2 _ H3 q k03 d3 (show DT H3 _ _ from .bl false) trivial
/-! displays -/
theorem paired_dts {C : Cn} {H H' : Hp} : ∀ {xs : List PyData} {vs : List V}, Paired (fun r v => Rep C H' r v ∧ Fresh H r v) (xs.map Rs.d) vs → DTs H' vs xs
  | [], _, h => by
    cases h
    exact .nil
  | x :: xs, _, h => by
    cases h with
    | cons a b => exact .cons a.1 (paired_dts b)
theorem ew_tup (h : EA P tr G n fun rs n1 => ∃ xs, rs = xs.map Rs.d ∧ xs.length ≤ 1000 ∧ Q (.d (.tuple xs)) n1) : EW P (tTup tr) G n Q := fun C σ H R hP g k =>
  h C σ H _ hP g fun rs n1 vs H1 q1 k1 d1 r1 => by
    obtain ⟨xs, e, hl, q⟩ := q1
    subst e
    have t := paired_dts r1
    refine ⟨by rw [t.length]; exact Nat.le_trans hl (by decide), fun p hp => ?_⟩
    have kn : Keep C H1 (upd H1 p (.tup vs)) := Keep.new hp
    exact k _ n1 _ _ q (k1.trans kn) (d1.new hp) (show DT _ _ _ from .tup upd_same (t.mono (kn.tx d1))) trivial
theorem ew_lst (h : EA P tr G n fun rs n1 => ∃ xs, rs = xs.map Rs.d ∧ xs.length ≤ 1000 ∧ Q (.l xs) n1) : EW P (tLst tr) G n Q := fun C σ H R hP g k =>
  h C σ H _ hP g fun rs n1 vs H1 q1 k1 d1 r1 => by
    obtain ⟨xs, e, hl, q⟩ := q1
    subst e
    have t := paired_dts r1
    refine ⟨by rw [t.length]; exact Nat.le_trans hl (by decide), fun p hp => ?_⟩
    have kn : Keep C H1 (upd H1 p (.lst vs)) := Keep.new hp
    refine k _ n1 _ _ q (k1.trans kn) (d1.new hp) ⟨p, vs, rfl, fun z => ?_, upd_same, t.mono (kn.tx d1)⟩ fun q e => ?_
    · rw [d1 p z] at hp
      cases hp
    · cases e
      exact k1.fresh g.frm.dr d1 hp
end
end Dl
set_option Elab.async false
set_option linter.all false
set_option maxRecDepth 100000
set_option autoImplicit false
/-! Dl2: operators, built-ins, subscripts, slices: the rules that the layer lacks, and what each gives as data. -/
namespace Dl
open PySem PySem.Spec PyProof.Rows L2
section
variable {X : Cx}
/-! ### == and != of data, in -/
def rEqM (K : PySem.W.Frag) : R2 := fun x y H Q => ∃ d e, Dp K H x d ∧ Dp K H y e ∧ d.canLay0 = true ∧ e.canLay0 = true ∧ min d.depth e.depth ≤ 60 ∧ Q (.bl (PyData.eqv d e)) H
def rNeM (K : PySem.W.Frag) : R2 := fun x y H Q => ∃ d e, Dp K H x d ∧ Dp K H y e ∧ d.canLay0 = true ∧ e.canLay0 = true ∧ min d.depth e.depth ≤ 60 ∧ Q (.bl (!PyData.eqv d e)) H
theorem op_eqM (hu : X.A.units + 64 < cLine) : OpR X (compareOp .Eq) (rEqM X.K) := fun pins s σ H x y v u Q I rx ry h => by
  obtain ⟨d, e, hd, he, ld, le, hm, q⟩ := h
  obtain ⟨as, r1⟩ := Dp.reads I d x v hd rx
  obtain ⟨bs, r2⟩ := Dp.reads I e y u he ry
  exact SeqAt.compareEq_reads r1 r2 ld le (by omega) ⟨.bl _, H, I, rfl, q⟩
theorem op_neM (hu : X.A.units + 64 < cLine) : OpR X (compareOp .NotEq) (rNeM X.K) := fun pins s σ H x y v u Q I rx ry h => by
  obtain ⟨d, e, hd, he, ld, le, hm, q⟩ := h
  obtain ⟨as, r1⟩ := Dp.reads I d x v hd rx
  obtain ⟨bs, r2⟩ := Dp.reads I e y u he ry
  exact SeqAt.compareNe_reads r1 r2 ld le (by omega) ⟨.bl _, H, I, rfl, q⟩
def rInM (K : PySem.W.Frag) : R2 := fun x y H Q => ∃ d ds, Dp K H x d ∧ (Dp K H y (.list ds) ∨ Dp K H y (.tuple ds)) ∧ d.canLay0 = true ∧ PyData.canLayAll0 ds = true ∧ d.depth ≤ 60 ∧ Q (.bl (ds.any fun z => PyData.eqv z d)) H
def rNotInM (K : PySem.W.Frag) : R2 := fun x y H Q => ∃ d ds, Dp K H x d ∧ (Dp K H y (.list ds) ∨ Dp K H y (.tuple ds)) ∧ d.canLay0 = true ∧ PyData.canLayAll0 ds = true ∧ d.depth ≤ 60 ∧ Q (.bl (!ds.any fun z => PyData.eqv z d)) H
theorem op_inM (hu : X.A.units + 64 < cLine) : OpR X (compareOp .In) (rInM X.K) := fun pins s σ H x y v u Q I rx ry h => by
  obtain ⟨d, ds, hd, he, ld, le, hm, q⟩ := h
  obtain ⟨as, r1⟩ := Dp.reads I d x v hd rx
  have hr : X.A.units + 1 + min (PyData.depthAll ds) d.depth < cLine := by
    have := Nat.min_le_right (PyData.depthAll ds) d.depth
    omega
  rcases he with he | he
  · obtain ⟨bs, r2⟩ := Dp.reads I _ y u he ry
    exact SeqAt.in_list_reads r2 r1 le ld hr ⟨.bl _, H, I, rfl, q⟩
  · obtain ⟨bs, r2⟩ := Dp.reads I _ y u he ry
    exact SeqAt.in_tuple_reads r2 r1 le ld hr ⟨.bl _, H, I, rfl, q⟩
theorem op_notInM (hu : X.A.units + 64 < cLine) : OpR X (compareOp .NotIn) (rNotInM X.K) := fun pins s σ H x y v u Q I rx ry h => by
  obtain ⟨d, ds, hd, he, ld, le, hm, q⟩ := h
  obtain ⟨as, r1⟩ := Dp.reads I d x v hd rx
  have hr : X.A.units + 1 + min (PyData.depthAll ds) d.depth < cLine := by
    have := Nat.min_le_right (PyData.depthAll ds) d.depth
    omega
  rcases he with he | he
  · obtain ⟨bs, r2⟩ := Dp.reads I _ y u he ry
    exact SeqAt.notIn_list_reads r2 r1 le ld hr ⟨.bl _, H, I, rfl, q⟩
  · obtain ⟨bs, r2⟩ := Dp.reads I _ y u he ry
    exact SeqAt.notIn_tuple_reads r2 r1 le ld hr ⟨.bl _, H, I, rfl, q⟩
/-! ### repr of data -/
def rRepr (K : PySem.W.Frag) : List V → Hp → VK → Prop := fun xs H Q => ∃ x d, xs = [x] ∧ Dp K H x d ∧ d.showable = true ∧ d.canLay0 = true ∧ d.depth ≤ 60 ∧ d.shown.length ≤ sizeLine ∧ Q (.str d.shown) H
theorem call_reprD (hu : X.A.units + 64 < cLine) (hg : X.A.guards = some []) : CallR X (.builtin "repr") (rRepr X.K) := fun pins s σ H xs us Q I rx h => by
  obtain ⟨x, d, rfl, hd, hs, hl, hm, hz, q⟩ := h
  obtain ⟨u, rfl, r1⟩ := vals1 rx
  have fin : ∀ (h' : Heap) (u : Tok) (tk : Nat), (∀ b o, s.heap.get? b = some o → h'.get? b = some o) → EP X pins σ Q (.str d.shown u) { s with heap := h', toks := tk } := fun h' u tk k => ⟨.str d.shown, H, I.kept (t' := tk) k, ⟨u, rfl⟩, q⟩
  obtain ⟨as, r⟩ := Dp.reads I d x u hd r1
  cases r with
  | none => exact PySem.P.repr_of_none (fin s.heap _ _ fun _ _ e => e)
  | bool b => exact PySem.P.repr_of_bool (fin s.heap _ _ fun _ _ e => e)
  | int i t => exact PySem.P.repr_of_int (by simpa [PyData.showable] using hs) (fin s.heap _ _ fun _ _ e => e)
  | str y t => exact PySem.P.repr_of_str (fin s.heap _ _ fun _ _ e => e) hz
  | list h1 h2 h3 h4 => exact repr_of_reads' (Reads.list h1 h2 h3 h4) hs (PyData.noDict_hsm (PyData.hasDict_of_canLay _ hl)) hg (by omega) (fun _ _ e => e) (fun h' u tk k => fin h' u tk k) hz
  | tuple h1 h2 h3 h4 => exact repr_of_reads' (Reads.tuple h1 h2 h3 h4) hs (PyData.noDict_hsm (PyData.hasDict_of_canLay _ hl)) hg (by omega) (fun _ _ e => e) (fun h' u tk k => fin h' u tk k) hz
  | dict h1 h2 h3 h4 h5 => cases hd
/-! ### tuple * int -/
def rRep0 (K : PySem.W.Frag) : R2 := fun x y H Q => ∃ l k xs, x = .ref l ∧ y = .int k ∧ SqT K H l xs ∧ xs ≠ [] ∧ -1000 ≤ k ∧ k ≤ 0 ∧ ∀ p, H p = none → Q (.ref p) (upd H p (.tup []))
def rRep1 (K : PySem.W.Frag) : R2 := fun x y H Q => ∃ l xs, x = .ref l ∧ y = .int 1 ∧ SqT K H l xs ∧ Q (.ref l) H
theorem mul_zero (l : Addr) (items : Array Value) (n : Nat) (dd : Option Addr) (sl : Array (Option Value)) (x : Int) (u : Tok) (c0 : (decide (x < -(2 ^ 63)) || decide (x ≥ 2 ^ 63)) = false) (c1 : (items.isEmpty || x == 1) = false) (c2 : (decide (x ≤ 0) || items.isEmpty) = true) :
    Meets (Builtin.«tuple.__mul__» ⟨[.ref l, .int x u], []⟩) (fun _ R s => s.heap.get? l = some { cls := .type "tuple", dict := dd, data := .seq items n, slots := sl } ∧
      R (.ok (.ret (Value.ref s.heap.objs.size))) { s with heap := s.heap.push { cls := Value.type "tuple", data := Data.seq #[] }, toks := s.toks }) :=
  .of_wp fun prog w A R s h => by
    obtain ⟨hp, g, d, tk, os⟩ := s
    obtain ⟨hl, h⟩ := h
    have f1 := AutoSeq1.idx_int
    wp_walk using wpAny_loadPart' hl
    repeat (first
      | (refine wpAny_ite_false (decide_eq_false (by rw [c0]; exact Bool.false_ne_true)) ?_; wp_walk using wpAny_loadPart' hl)
      | (refine wpAny_ite_false (decide_eq_false (by rw [c1]; exact Bool.false_ne_true)) ?_; wp_walk using wpAny_loadPart' hl)
      | (refine wpAny_ite_true (decide_eq_true c2) ?_; wp_walk using wpAny_loadPart' hl)
      | (refine wpAny_ite_false (decide_eq_false (Nat.not_lt.mpr (Nat.zero_le _))) ?_; wp_walk using wpAny_loadPart' hl))
    exact ⟨_, rfl, h⟩
theorem mul_one (l : Addr) (items : Array Value) (n : Nat) (u : Tok) :
    Meets (Builtin.«tuple.__mul__» ⟨[.ref l, .int 1 u], []⟩) (fun _ R s => (∃ dd sl, s.heap.get? l = some { cls := .type "tuple", dict := dd, data := .seq items n, slots := sl }) ∧ R (.ok (.ret (Value.ref l))) s) :=
  .of_wp fun prog w A R s h => by
    obtain ⟨hp, g, d, tk, os⟩ := s
    obtain ⟨⟨dd, sl, hl⟩, h⟩ := h
    have f1 := AutoSeq1.idx_int
    wp_walk using wpAny_loadPart' hl
    repeat (first
      | (refine wpAny_ite_false (decide_eq_false (by decide)) ?_; wp_walk using wpAny_loadPart' hl)
      | (refine wpAny_ite_true (decide_eq_true (by simp)) ?_; wp_walk using wpAny_loadPart' hl))
    exact ⟨_, rfl, h⟩
theorem op_rep0 : OpR X (binaryOp .Mult) (rRep0 X.K) := fun pins s σ H x y v u Q I rx ry h => by
  obtain ⟨l, k, xs, rfl, rfl, hT, hne, h1, h2, q⟩ := h
  cases rx
  obtain ⟨t, rfl⟩ := ry
  obtain ⟨its, r, ⟨⟨cls, dd, data, sl⟩, ho, hc, n, hd⟩, hs⟩ := I.tuple hT
  simp only at hc hd
  subst hc hd
  have hi : its.toArray.isEmpty = false := by
    cases r with
    | nil => exact absurd rfl hne
    | cons a b => rfl
  have c0 : (decide (k < -(2 ^ 63)) || decide (k ≥ 2 ^ 63)) = false := by
    rw [decide_eq_false (by omega), decide_eq_false (by omega)]
    rfl
  have c1 : (its.toArray.isEmpty || k == 1) = false := by
    rw [hi, Bool.false_or]
    exact beq_eq_false_iff_ne.mpr (by omega)
  have c2 : (decide (k ≤ 0) || its.toArray.isEmpty) = true := by
    rw [decide_eq_true h2]
    rfl
  refine wpAny_binaryOp_repeat_ref (T := "tuple") (U := "int") (by decide) ⟨_, ho, rfl⟩ (fun z => typeIs_int z k t) noFill_tuple_mul F.fills_int_mul F.slot_int_rmul repeat_tuple F.slot_int_index.lookup ?_
  refine call_meets F.slot_int_rmul (typeIs_int s k t) F.entry_int_rmul (F.args_int_rmul_2 _ _) (int_rmul_tuple k t l its.toArray n dd sl) ⟨ho, rfl, ⟨_, ho, rfl⟩, ?_⟩
  refine call_meets F.slot_tuple_mul ⟨_, ho, rfl⟩ F.entry_tuple_mul (F.args_tuple_mul_2 _ _) (mul_zero l its.toArray n dd sl k t c0 c1 c2) ⟨ho, ?_⟩
  refine ⟨.ref s.heap.objs.size, _, I.laid (t' := s.toks) (o := .tup []) (fun b ob z => Heap.get?_push_of_some _ z) (Nat.le_refl _) ?_, rfl, q _ (I.hok.fresh (Nat.le_refl _))⟩
  exact ⟨Nat.zero_le _, [], .nil, IsTup.new _ _⟩
theorem op_rep1 : OpR X (binaryOp .Mult) (rRep1 X.K) := fun pins s σ H x y v u Q I rx ry h => by
  obtain ⟨l, xs, rfl, rfl, hT, q⟩ := h
  cases rx
  obtain ⟨t, rfl⟩ := ry
  obtain ⟨its, r, ⟨⟨cls, dd, data, sl⟩, ho, hc, n, hd⟩, hs⟩ := I.tuple hT
  simp only at hc hd
  subst hc hd
  refine wpAny_binaryOp_repeat_ref (T := "tuple") (U := "int") (by decide) ⟨_, ho, rfl⟩ (fun z => typeIs_int z 1 t) noFill_tuple_mul F.fills_int_mul F.slot_int_rmul repeat_tuple F.slot_int_index.lookup ?_
  refine call_meets F.slot_int_rmul (typeIs_int s 1 t) F.entry_int_rmul (F.args_int_rmul_2 _ _) (int_rmul_tuple 1 t l its.toArray n dd sl) ⟨ho, rfl, ⟨_, ho, rfl⟩, ?_⟩
  exact call_meets F.slot_tuple_mul ⟨_, ho, rfl⟩ F.entry_tuple_mul (F.args_tuple_mul_2 _ _) (mul_one l its.toArray n t) ⟨⟨dd, sl, ho⟩, ⟨.ref l, H, I, rfl, q⟩⟩
/-! ### operators that serve several kinds -/
def rStrAdd : R2 := fun x y H Q => ∃ i j, x = .str i ∧ y = .str j ∧ i.length + j.length ≤ sizeLine ∧ Q (.str (i ++ j)) H
def rPlus (K : PySem.W.Frag) : R2 := fun x y H Q => (rI0 fun i j => .int (i + j)) x y H Q ∨ rStrAdd x y H Q ∨ rCat x y H Q ∨ rCatA K x y H Q
theorem op_plus : OpR X (binaryOp .Add) (rPlus X.K) := OpR.or op_add (OpR.or op_add_str (OpR.or op_cat op_catA))
def rTimes (K : PySem.W.Frag) : R2 := fun x y H Q => (rI CMul fun i j => .int (i * j)) x y H Q ∨ rRep x y H Q ∨ rRepT K x y H Q ∨ rRep0 K x y H Q ∨ rRep1 K x y H Q
theorem op_times : OpR X (binaryOp .Mult) (rTimes X.K) := OpR.or op_mul (OpR.or op_rep (OpR.or op_repT (OpR.or op_rep0 op_rep1)))
def rLen (K : PySem.W.Frag) : List V → Hp → VK → Prop := fun xs H Q => ∃ x n, xs = [x] ∧ LenV K x H n ∧ Q (.int n) H
theorem call_lenA : CallR X (.builtin "len") (rLen X.K) := call_len
def rIsN : R2 := fun x y H Q => y = .non ∧ Q (.bl (decide (x = .non))) H
def rNotN : R2 := fun x y H Q => y = .non ∧ Q (.bl (!decide (x = .non))) H
theorem op_none : OpR X (compareOp .Is) rIsN := op_isN
theorem op_some : OpR X (compareOp .IsNot) rNotN := op_notN
def rListOf (K : PySem.W.Frag) : List V → Hp → VK → Prop := fun xs H Q => ∃ p ys, xs = [.ref p] ∧ (SqL K H p ys ∨ SqT K H p ys) ∧ ∀ l, H l = none → Q (.ref l) (upd H l (.lst ys))
theorem call_listA : CallR X (.type "list") (rListOf X.K) := call_list_of
def rTupOf (K : PySem.W.Frag) : List V → Hp → VK → Prop := fun xs H Q => ∃ p ys, xs = [.ref p] ∧ ((SqL K H p ys ∧ ∀ l, H l = none → Q (.ref l) (upd H l (.tup ys))) ∨ (SqT K H p ys ∧ Q (.ref p) H))
theorem call_tupA : CallR X (.type "tuple") (rTupOf X.K) := call_tuple_of
def rMin2 : List V → Hp → VK → Prop := fun xs H Q => ∃ i j, xs = [.int i, .int j] ∧ Q (.int (if j < i then j else i)) H
theorem call_min2A (hc : X.calm = true) : CallR X (.builtin "min") rMin2 := call_min2 hc
end
/-! ### what the operators give as data -/
def isNone : PyData → Bool
  | .none => true
  | _ => false
section
variable {P : Pm} {Q : Rs → Prop} {x y : PyData} {xs ys : List PyData} {i j : Int} {s t : Str} {a b : Bool}
theorem ow_int {f : Int → Int → Int} (q : Q (.d (.int (f i j)))) : OW P (rI0 fun i j => .int (f i j)) (.d (.int i)) (.d (.int j)) Q := fun C n H vx vy R _ g rx ry k => by
  cases rx
  cases ry
  exact ⟨i, j, rfl, rfl, k _ _ H q (Keep.refl C H) g.dr (show DT H _ _ from .int _) trivial⟩
theorem ow_intC {c : Int → Int → Prop} {f : Int → Int → Int} (hc : c i j) (q : Q (.d (.int (f i j)))) : OW P (rI c fun i j => .int (f i j)) (.d (.int i)) (.d (.int j)) Q := fun C n H vx vy R _ g rx ry k => by
  cases rx
  cases ry
  exact ⟨i, j, rfl, rfl, hc, k _ _ H q (Keep.refl C H) g.dr (show DT H _ _ from .int _) trivial⟩
theorem ow_intB {f : Int → Int → Bool} (q : Q (.d (.bool (f i j)))) : OW P (rI0 fun i j => .bl (f i j)) (.d (.int i)) (.d (.int j)) Q := fun C n H vx vy R _ g rx ry k => by
  cases rx
  cases ry
  exact ⟨i, j, rfl, rfl, k _ _ H q (Keep.refl C H) g.dr (show DT H _ _ from .bl _) trivial⟩
theorem ow_addI (q : Q (.d (.int (i + j)))) : OW P (rPlus P.K) (.d (.int i)) (.d (.int j)) Q := fun C n H vx vy R hP g rx ry k => .inl (ow_int (f := fun i j => i + j) q C n H vx vy R hP g rx ry k)
theorem ow_addS (hz : s.length + t.length ≤ 1000) (ho : PyData.strOk (s ++ t) = true) (q : Q (.d (.str (s ++ t)))) : OW P (rPlus P.K) (.d (.str s)) (.d (.str t)) Q := fun C n H vx vy R _ g rx ry k => by
  cases rx
  cases ry
  exact .inr (.inl ⟨s, t, rfl, rfl, Nat.le_trans hz (by decide), k _ _ H q (Keep.refl C H) g.dr (show DT H _ _ from .str _ ho) trivial⟩)
theorem new_lst {C : Cn} {n : Int} {H : Hp} {vs : List V} {R : VK} (g : Frm C n H) (t : DTs H vs xs) (q : Q (.l xs)) (k : ∀ z v H', Q z → Keep C H H' → Dr C n H' → Rep C H' z v → Fresh H z v → R v H') : ∀ p, H p = none → R (.ref p) (upd H p (.lst vs)) := fun p hp => by
  refine k _ _ _ q (Keep.new hp) (g.dr.new hp) ⟨p, vs, rfl, fun z => ?_, upd_same, t.mono ((Keep.new (C := C) hp).tx g.dr)⟩ fun q e => ?_
  · rw [g.dr p z] at hp
    cases hp
  · cases e
    exact hp
theorem new_tup {C : Cn} {n : Int} {H : Hp} {vs : List V} {R : VK} (g : Frm C n H) (t : DTs H vs xs) (q : Q (.d (.tuple xs))) (k : ∀ z v H', Q z → Keep C H H' → Dr C n H' → Rep C H' z v → Fresh H z v → R v H') : ∀ p, H p = none → R (.ref p) (upd H p (.tup vs)) := fun p hp =>
  k _ _ _ q (Keep.new hp) (g.dr.new hp) (show DT _ _ _ from .tup upd_same (t.mono ((Keep.new (C := C) hp).tx g.dr))) trivial
theorem rep_l {C : Cn} {H : Hp} {r : Rs} {v : V} (h : Rep C H r v) (e : r = .l xs ∨ r = .r xs) : ∃ p vs, v = .ref p ∧ H p = some (.lst vs) ∧ DTs H vs xs := by
  rcases e with e | e
  all_goals
    subst e
    obtain ⟨p, vs, e1, _, e2, e3⟩ := h
    exact ⟨p, vs, e1, e2, e3⟩
theorem rep_t {H : Hp} {v : V} (h : DT H v (.tuple xs)) : ∃ p vs, v = .ref p ∧ H p = some (.tup vs) ∧ DTs H vs xs := by
  cases h with
  | tup h1 h2 => exact ⟨_, _, rfl, h1, h2⟩
theorem ow_addL {r r' : Rs} (e : r = .l xs ∨ r = .r xs) (e' : r' = .l ys ∨ r' = .r ys) (hz : xs.length + ys.length ≤ 1000) (q : Q (.l (xs ++ ys))) : OW P (rPlus P.K) r r' Q := fun C n H vx vy R _ g rx ry k => by
  obtain ⟨p, vs, rfl, h1, t1⟩ := rep_l rx e
  obtain ⟨p', vs', rfl, h2, t2⟩ := rep_l ry e'
  exact .inr (.inr (.inl ⟨p, p', vs, vs', rfl, rfl, h1, h2, by rw [t1.length, t2.length]; exact Nat.le_trans hz (by decide), new_lst g (t1.append t2) q k⟩))
theorem ow_addT (hz : xs.length + ys.length ≤ 1000) (q : Q (.d (.tuple (xs ++ ys)))) : OW P (rPlus P.K) (.d (.tuple xs)) (.d (.tuple ys)) Q := fun C n H vx vy R _ g rx ry k => by
  obtain ⟨p, vs, rfl, h1, t1⟩ := rep_t rx
  obtain ⟨p', vs', rfl, h2, t2⟩ := rep_t ry
  refine .inr (.inr (.inr ⟨p, p', vs, vs', rfl, rfl, SqT.of h1, SqT.of h2, by rw [t1.length, t2.length]; exact Nat.le_trans hz (by decide), fun e => ?_, fun e e' => ?_, fun _ _ => new_tup g (t1.append t2) q k⟩))
  · subst e
    cases t1
    exact k _ _ H q (Keep.refl C H) g.dr ry trivial
  · subst e'
    cases t2
    rw [List.append_nil] at q
    exact k _ _ H q (Keep.refl C H) g.dr rx trivial
theorem ow_mulI (hc : CMul i j) (q : Q (.d (.int (i * j)))) : OW P (rTimes P.K) (.d (.int i)) (.d (.int j)) Q := fun C n H vx vy R hP g rx ry k => .inl (ow_intC (f := fun i j => i * j) hc q C n H vx vy R hP g rx ry k)
theorem ow_mulL {r : Rs} (e : r = .l xs ∨ r = .r xs) (h0 : 0 ≤ j) (h1 : j ≤ 1000) (hz : xs.length ≤ 1000) (q : Q (.l (List.replicate j.toNat xs).flatten)) : OW P (rTimes P.K) r (.d (.int j)) Q := fun C n H vx vy R _ g rx ry k => by
  obtain ⟨p, vs, rfl, h2, t⟩ := rep_l rx e
  cases ry
  refine .inr (.inl ⟨p, j, vs, rfl, rfl, h2, by omega, by omega, ?_, new_lst g (t.rep _) q k⟩)
  rw [t.length, sizeLine_eq]
  have := Nat.mul_le_mul hz (show j.toNat ≤ 1000 by omega)
  omega
theorem ow_mulT (hne : xs ≠ []) (h0 : 0 ≤ j) (h1 : j ≤ 1000) (hz : xs.length ≤ 1000) (q : Q (.d (.tuple (List.replicate j.toNat xs).flatten))) : OW P (rTimes P.K) (.d (.tuple xs)) (.d (.int j)) Q := fun C n H vx vy R hP g rx ry k => by
  obtain ⟨p, vs, rfl, h2, t⟩ := rep_t rx
  cases ry
  have hv : vs ≠ [] := fun e => hne (by subst e; cases t; rfl)
  rcases (by omega : j = 0 ∨ j = 1 ∨ 2 ≤ j) with e | e | e
  · subst e
    exact .inr (.inr (.inr (.inl ⟨p, 0, vs, rfl, rfl, SqT.of h2, hv, by omega, by omega, new_tup g .nil q k⟩)))
  · subst e
    refine .inr (.inr (.inr (.inr ⟨p, vs, rfl, rfl, SqT.of h2, ?_⟩)))
    have e2 : (List.replicate (1 : Int).toNat xs).flatten = xs := by simp
    rw [e2] at q
    exact k _ _ H q (Keep.refl C H) g.dr rx trivial
  · exact .inr (.inr (.inl ⟨p, j, vs, rfl, rfl, SqT.of h2, hv, e, h1, by rw [t.length]; exact hz, new_tup g (t.rep _) q k⟩))
/-! comparisons -/
theorem dp_of {K : PySem.W.Frag} {C : Cn} {H : Hp} {r : Rs} {v : V} (h : Rep C H r v) (e : r = .l xs ∨ r = .r xs) : Dp K H v (.list xs) ∧ PyData.canLayAll0 xs = true := by
  obtain ⟨p, vs, rfl, h2, t⟩ := rep_l h e
  exact ⟨.lst (SqL.of h2) t.dp, t.lay⟩
theorem ow_eqD (hm : min x.depth y.depth ≤ 60) (q : Q (.d (.bool (PyData.eqv x y)))) : OW P (rEqM P.K) (.d x) (.d y) Q := fun C n H vx vy R _ g rx ry k =>
  ⟨x, y, DT.dp rx, DT.dp ry, DT.lay rx, DT.lay ry, hm, k _ _ H q (Keep.refl C H) g.dr (show DT H _ _ from .bl _) trivial⟩
theorem ow_neD (hm : min x.depth y.depth ≤ 60) (q : Q (.d (.bool !PyData.eqv x y))) : OW P (rNeM P.K) (.d x) (.d y) Q := fun C n H vx vy R _ g rx ry k =>
  ⟨x, y, DT.dp rx, DT.dp ry, DT.lay rx, DT.lay ry, hm, k _ _ H q (Keep.refl C H) g.dr (show DT H _ _ from .bl _) trivial⟩
theorem beq_int : PyData.eqv (.int i) (.int j) = decide (i = j) := by
  rw [← Bool.beq_eq_decide_eq]
  simp only [PyData.eqv]
theorem beq_str : PyData.eqv (.str s) (.str t) = decide (s = t) := by
  simp only [PyData.eqv]
  rw [Bool.beq_eq_decide_eq]
theorem ow_eqI (q : Q (.d (.bool (decide (i = j))))) : OW P (rEqM P.K) (.d (.int i)) (.d (.int j)) Q := ow_eqD (Nat.zero_le _) (by rw [beq_int]; exact q)
theorem ow_neI (q : Q (.d (.bool !decide (i = j)))) : OW P (rNeM P.K) (.d (.int i)) (.d (.int j)) Q := ow_neD (Nat.zero_le _) (by rw [beq_int]; exact q)
theorem ow_eqS (q : Q (.d (.bool (decide (s = t))))) : OW P (rEqM P.K) (.d (.str s)) (.d (.str t)) Q := ow_eqD (Nat.zero_le _) (by rw [beq_str]; exact q)
theorem ow_neS (q : Q (.d (.bool !decide (s = t)))) : OW P (rNeM P.K) (.d (.str s)) (.d (.str t)) Q := ow_neD (Nat.zero_le _) (by rw [beq_str]; exact q)
theorem ow_eqB (q : Q (.d (.bool (a == b)))) : OW P (rEqM P.K) (.d (.bool a)) (.d (.bool b)) Q := ow_eqD (Nat.zero_le _) (by simp only [PyData.eqv]; exact q)
theorem eqv_nil : PyData.eqv (.list xs) (.list []) = xs.isEmpty := by
  cases xs <;> simp [PyData.eqv, PyData.eqvAll]
theorem ow_eqN {r r' : Rs} (e : r = .l xs ∨ r = .r xs) (e' : r' = .l [] ∨ r' = .r []) (q : Q (.d (.bool xs.isEmpty))) : OW P (rEqM P.K) r r' Q := fun C n H vx vy R _ g rx ry k =>
  ⟨.list xs, .list [], (dp_of rx e).1, (dp_of ry e').1, by simp only [PyData.canLay0]; exact (dp_of (K := P.K) rx e).2, rfl, Nat.le_trans (Nat.min_le_right _ _) (by decide),
    k (.d (.bool (PyData.eqv (.list xs) (.list [])))) _ H (by rw [eqv_nil]; exact q) (Keep.refl C H) g.dr (show DT H _ _ from .bl _) trivial⟩
theorem ow_neN {r r' : Rs} (e : r = .l xs ∨ r = .r xs) (e' : r' = .l [] ∨ r' = .r []) (q : Q (.d (.bool !xs.isEmpty))) : OW P (rNeM P.K) r r' Q := fun C n H vx vy R _ g rx ry k =>
  ⟨.list xs, .list [], (dp_of rx e).1, (dp_of ry e').1, by simp only [PyData.canLay0]; exact (dp_of (K := P.K) rx e).2, rfl, Nat.le_trans (Nat.min_le_right _ _) (by decide),
    k (.d (.bool !PyData.eqv (.list xs) (.list []))) _ H (by rw [eqv_nil]; exact q) (Keep.refl C H) g.dr (show DT H _ _ from .bl _) trivial⟩
theorem ow_inT (hm : x.depth ≤ 60) (q : Q (.d (.bool (xs.any fun z => PyData.eqv z x)))) : OW P (rInM P.K) (.d x) (.d (.tuple xs)) Q := fun C n H vx vy R _ g rx ry k =>
  ⟨x, xs, DT.dp rx, .inr (DT.dp ry), DT.lay rx, by have h := DT.lay ry; simpa only [PyData.canLay0] using h, hm, k _ _ H q (Keep.refl C H) g.dr (show DT H _ _ from .bl _) trivial⟩
theorem ow_inL {r : Rs} (e : r = .l xs ∨ r = .r xs) (hm : x.depth ≤ 60) (q : Q (.d (.bool (xs.any fun z => PyData.eqv z x)))) : OW P (rInM P.K) (.d x) r Q := fun C n H vx vy R _ g rx ry k =>
  ⟨x, xs, DT.dp rx, .inl (dp_of ry e).1, DT.lay rx, (dp_of (K := P.K) ry e).2, hm, k _ _ H q (Keep.refl C H) g.dr (show DT H _ _ from .bl _) trivial⟩
theorem ow_niL {r : Rs} (e : r = .l xs ∨ r = .r xs) (hm : x.depth ≤ 60) (q : Q (.d (.bool !(xs.any fun z => PyData.eqv z x)))) : OW P (rNotInM P.K) (.d x) r Q := fun C n H vx vy R _ g rx ry k =>
  ⟨x, xs, DT.dp rx, .inl (dp_of ry e).1, DT.lay rx, (dp_of (K := P.K) ry e).2, hm, k _ _ H q (Keep.refl C H) g.dr (show DT H _ _ from .bl _) trivial⟩
theorem dt_none {H : Hp} {v : V} (h : DT H v x) : decide (v = .non) = isNone x := by
  cases h <;> rfl
theorem ow_isN (q : Q (.d (.bool (isNone x)))) : OW P rIsN (.d x) (.d .none) Q := fun C n H vx vy R _ g rx ry k => by
  cases ry
  refine ⟨rfl, ?_⟩
  rw [dt_none rx]
  exact k _ _ H q (Keep.refl C H) g.dr (show DT H _ _ from .bl _) trivial
theorem ow_noN (q : Q (.d (.bool !isNone x))) : OW P rNotN (.d x) (.d .none) Q := fun C n H vx vy R _ g rx ry k => by
  cases ry
  refine ⟨rfl, ?_⟩
  rw [dt_none rx]
  exact k _ _ H q (Keep.refl C H) g.dr (show DT H _ _ from .bl _) trivial
theorem ow_neX (q : Q (.d (.bool !decide (s = t)))) : OW P rNe (.x s) (.x t) Q := fun C n H vx vy R _ g rx ry k => by
  cases rx
  cases ry
  have q2 : Q (.d (.bool !decide (V.str s = V.str t))) := by
    rw [dec_str, Bool.beq_eq_decide_eq]
    exact q
  exact ⟨rfl, k _ _ H q2 (Keep.refl C H) g.dr (show DT H _ _ from .bl _) trivial⟩
theorem uw_int {f : Int → Int} (q : Q (.d (.int (f i)))) : UW P (rU fun i => .int (f i)) (.d (.int i)) Q := fun C n H vx R _ g rx k => by
  cases rx
  exact ⟨i, rfl, k _ _ H q (Keep.refl C H) g.dr (show DT H _ _ from .int _) trivial⟩
/-! built-ins -/
theorem cw_lenT (q : Q (.d (.int (xs.length : Nat)))) : CW P (rLen P.K) [.d (.tuple xs)] Q := fun C n H vs R _ g rx k => by
  cases rx with
  | cons r rr =>
    cases rr
    obtain ⟨p, vs, rfl, h2, t⟩ := rep_t r
    exact ⟨.ref p, xs.length, rfl, .inr ⟨vs, SqT.of h2, t.length.symm⟩, k _ _ H q (Keep.refl C H) g.dr (show DT H _ _ from .int _) trivial⟩
theorem cw_lenL {r : Rs} (e : r = .l xs ∨ r = .r xs) (q : Q (.d (.int (xs.length : Nat)))) : CW P (rLen P.K) [r] Q := fun C n H vs R _ g rx k => by
  cases rx with
  | cons r rr =>
    cases rr
    obtain ⟨p, vs, rfl, h2, t⟩ := rep_l r e
    exact ⟨.ref p, xs.length, rfl, .inl ⟨vs, SqL.of h2, t.length.symm⟩, k _ _ H q (Keep.refl C H) g.dr (show DT H _ _ from .int _) trivial⟩
theorem cw_lenS (hz : s.length ≤ 1000) (q : Q (.d (.int (s.length : Nat)))) : CW P (rLen P.K) [.d (.str s)] Q := fun C n H vs R _ g rx k => by
  cases rx with
  | cons r rr =>
    cases rr
    cases r
    exact ⟨.str s, s.length, rfl, ⟨Nat.le_trans hz (by decide), rfl⟩, k _ _ H q (Keep.refl C H) g.dr (show DT H _ _ from .int _) trivial⟩
theorem cw_lenW (q : Q (.d (.int (P.ns.length : Nat)))) : CW P (rLen P.K) [.s] Q := fun C n H vs R hP g rx k => by
  cases rx with
  | cons r rr =>
    cases rr
    cases r
    subst hP
    exact ⟨.ref C.scr, C.pm.ns.length, rfl, .inl ⟨_, g.scr_at, (List.length_map ..).symm⟩, k _ _ H q (Keep.refl C H) g.dr (show DT H _ _ from .int _) trivial⟩
theorem cw_listT (q : Q (.l xs)) : CW P (rListOf P.K) [.d (.tuple xs)] Q := fun C n H vs R _ g rx k => by
  cases rx with
  | cons r rr =>
    cases rr
    obtain ⟨p, vs, rfl, h2, t⟩ := rep_t r
    exact ⟨p, vs, rfl, .inr (SqT.of h2), new_lst g t q k⟩
theorem cw_tupL {r : Rs} (e : r = .l xs ∨ r = .r xs) (q : Q (.d (.tuple xs))) : CW P (rTupOf P.K) [r] Q := fun C n H vs R _ g rx k => by
  cases rx with
  | cons r rr =>
    cases rr
    obtain ⟨p, vs, rfl, h2, t⟩ := rep_l r e
    exact ⟨p, vs, rfl, .inl ⟨SqL.of h2, new_tup g t q k⟩⟩
theorem cw_min (q : Q (.d (.int (if j < i then j else i)))) : CW P rMin2 [.d (.int i), .d (.int j)] Q := fun C n H vs R _ g rx k => by
  cases rx with
  | cons r rr =>
    cases rr with
    | cons r' rr =>
      cases rr
      cases r
      cases r'
      exact ⟨i, j, rfl, k _ _ H q (Keep.refl C H) g.dr (show DT H _ _ from .int _) trivial⟩
theorem cw_repr (hs : x.showable = true) (hm : x.depth ≤ 60) (hz : x.shown.length ≤ sizeLine) (q : Q (.x x.shown)) : CW P (rRepr P.K) [.d x] Q := fun C n H vs R _ g rx k => by
  cases rx with
  | cons r rr =>
    cases rr
    exact ⟨_, x, rfl, DT.dp r, hs, DT.lay r, hm, hz, k _ _ H q (Keep.refl C H) g.dr rfl trivial⟩
end
end Dl
set_option Elab.async false
set_option linter.all false
set_option maxRecDepth 100000
set_option autoImplicit false
/-! Dl3: dicts made of a list of pairs, their keys data of any depth: d[k], list(d). -/
namespace Dl
open PySem PySem.Spec PyProof.Rows L2
/-! ### keys -/
mutual
theorem nk_inj : ∀ {a b : PyData}, keyD a = true → keyD b = true → nk a = nk b → a = b
  | .str x, .str y, _, _, h => by
    simp only [nk] at h
    cases h
    rfl
  | .tuple as, .tuple bs, ha, hb, h => by
    simp only [nk] at h
    simp only [keyD] at ha hb
    have h2 := NestedKey.tup.inj h
    rw [nks_inj ha hb h2]
  | .str x, .tuple bs, _, _, h => by simp only [nk] at h; cases h
  | .tuple bs, .str x, _, _, h => by simp only [nk] at h; cases h
  | .none, _, ha, _, _ => by simp [keyD] at ha
  | .bool _, _, ha, _, _ => by simp [keyD] at ha
  | .int _, _, ha, _, _ => by simp [keyD] at ha
  | .list _, _, ha, _, _ => by simp [keyD] at ha
  | .dict _, _, ha, _, _ => by simp [keyD] at ha
  | .str _, .none, _, hb, _ => by simp [keyD] at hb
  | .str _, .bool _, _, hb, _ => by simp [keyD] at hb
  | .str _, .int _, _, hb, _ => by simp [keyD] at hb
  | .str _, .list _, _, hb, _ => by simp [keyD] at hb
  | .str _, .dict _, _, hb, _ => by simp [keyD] at hb
  | .tuple _, .none, _, hb, _ => by simp [keyD] at hb
  | .tuple _, .bool _, _, hb, _ => by simp [keyD] at hb
  | .tuple _, .int _, _, hb, _ => by simp [keyD] at hb
  | .tuple _, .list _, _, hb, _ => by simp [keyD] at hb
  | .tuple _, .dict _, _, hb, _ => by simp [keyD] at hb
theorem nks_inj : ∀ {a b : List PyData}, keysD a = true → keysD b = true → nks a = nks b → a = b
  | [], [], _, _, _ => rfl
  | [], _ :: _, _, _, h => by simp [nks] at h
  | _ :: _, [], _, _, h => by simp [nks] at h
  | x :: xs, y :: ys, ha, hb, h => by
    simp only [nks, List.cons.injEq] at h
    simp only [keysD, Bool.and_eq_true] at ha hb
    rw [nk_inj ha.1 hb.1 h.1, nks_inj ha.2 hb.2 h.2]
end
mutual
theorem nk_depth : ∀ a : PyData, keyD a = true → (nk a).depth = a.depth
  | .str x, _ => by simp only [nk, NestedKey.depth, PyData.depth]
  | .tuple as, ha => by
    simp only [keyD] at ha
    simp only [nk, NestedKey.depth, PyData.depth, nks_depth as ha]
  | .none, ha => by simp [keyD] at ha
  | .bool _, ha => by simp [keyD] at ha
  | .int _, ha => by simp [keyD] at ha
  | .list _, ha => by simp [keyD] at ha
  | .dict _, ha => by simp [keyD] at ha
theorem nks_depth : ∀ a : List PyData, keysD a = true → NestedKey.depthAll (nks a) = PyData.depthAll a
  | [], _ => by simp only [nks, NestedKey.depthAll, PyData.depthAll]
  | x :: xs, ha => by
    simp only [keysD, Bool.and_eq_true] at ha
    simp only [nks, NestedKey.depthAll, PyData.depthAll, nk_depth x ha.1, nks_depth xs ha.2]
end
section
variable {X : Cx} {pins : List (Addr × Obj)} {σ : L2.St} {H : Hp} {s : Shared}
mutual
theorem nested_of (I : Inv X pins σ H s) : ∀ {d : PyData} {v : V} {u : Value}, keyD d = true → DT H v d → RelV v u → NestedIs s.heap (nk d) u
  | _, _, _, _, .str x h, r => by
    obtain ⟨t, rfl⟩ := r
    simp only [nk]
    exact .text x t
  | _, _, _, hk, .tup h hs, r => by
    cases r
    obtain ⟨_, its, rv, o, ho, hc, n, hd⟩ := I.hok _ _ h
    simp only [keyD] at hk
    simp only [nk]
    exact .tup ho hc hd (nesteds_of I hk hs rv)
  | _, _, _, hk, .non, _ => by simp [keyD] at hk
  | _, _, _, hk, .bl _, _ => by simp [keyD] at hk
  | _, _, _, hk, .int _, _ => by simp [keyD] at hk
theorem nesteds_of (I : Inv X pins σ H s) : ∀ {ds : List PyData} {vs : List V} {us : List Value}, keysD ds = true → DTs H vs ds → Vals vs us → NestedAll s.heap (nks ds) us
  | _, _, _, _, .nil, .nil => by
    simp only [nks]
    exact .nil
  | _, _, _, hk, .cons h hs, .cons r rs => by
    simp only [keysD, Bool.and_eq_true] at hk
    simp only [nks]
    exact .cons (nested_of I hk.1 h r) (nesteds_of I hk.2 hs rs)
end
end
/-! ### a dict of pairs -/
/-- the last value of a key -/
def look (kvs : List (PyData × PyData)) (k : PyData) : Option PyData := match kvs with
  | [] => none
  | kv :: r => match look r k with
    | some v => some v
    | none => if nk kv.1 = nk k then some kv.2 else none
theorem trip_len : ∀ {qs : List (Addr × V)} {kvs : List (PyData × PyData)} {us : List Value}, qs.length = kvs.length → us.length = kvs.length → (trip qs kvs us).length = kvs.length
  | [], [], [], _, _ => rfl
  | _ :: qs, _ :: kvs, _ :: us, h1, h2 => by
    have := trip_len (qs := qs) (kvs := kvs) (us := us) (by simpa using h1) (by simpa using h2)
    simp [trip, this]
theorem trip_get : ∀ {qs : List (Addr × V)} {kvs : List (PyData × PyData)} {us : List Value} {i : Nat} {q : Addr × V} {kv : PyData × PyData} {u : Value}, qs[i]? = some q → kvs[i]? = some kv → us[i]? = some u → (trip qs kvs us)[i]? = some (nk kv.1, q.1, u)
  | _ :: _, _ :: _, _ :: _, 0, _, _, _, h1, h2, h3 => by
    simp at h1 h2 h3
    subst h1 h2 h3
    rfl
  | _ :: qs, _ :: kvs, _ :: us, i + 1, q, kv, u, h1, h2, h3 => trip_get (qs := qs) (kvs := kvs) (us := us) (i := i) (by simpa using h1) (by simpa using h2) (by simpa using h3)
  | [], _, _, _, _, _, _, h1, _, _ => by simp at h1
  | _ :: _, [], _, _, _, _, _, _, h2, _ => by simp at h2
  | _ :: _, _ :: _, [], _, _, _, _, _, _, h3 => by simp at h3
theorem trip_mem : ∀ {qs : List (Addr × V)} {kvs : List (PyData × PyData)} {us : List Value} {x : NestedKey × Addr × Value}, x ∈ trip qs kvs us → ∃ (i : Nat) (q : Addr × V) (kv : PyData × PyData) (u : Value), qs[i]? = some q ∧ kvs[i]? = some kv ∧ us[i]? = some u ∧ x = (nk kv.1, q.1, u)
  | q :: qs, kv :: kvs, u :: us, x, h => by
    rcases List.mem_cons.mp (show x ∈ (nk kv.1, q.1, u) :: trip qs kvs us from h) with e | h
    · exact ⟨0, q, kv, u, rfl, rfl, rfl, e⟩
    · obtain ⟨i, q', kv', u', h1, h2, h3, h4⟩ := trip_mem h
      exact ⟨i + 1, q', kv', u', h1, h2, h3, h4⟩
  | [], _, _, _, h => by cases h
  | _ :: _, [], _, _, h => by cases h
  | _ :: _, _ :: _, [], _, h => by cases h
theorem storedH_mem {xs : List (NestedKey × Addr × Value)} {k : NestedKey} {a : Addr} {v : Value} {x : NestedKey × Addr × Value} (h : x ∈ storedH xs k a v) : x = (k, a, v) ∨ (∃ y ∈ xs, x.1 = y.1 ∧ x.2.1 = y.2.1) := by
  unfold storedH at h
  split at h
  · obtain ⟨y, hy, e⟩ := List.mem_map.mp h
    refine .inr ⟨y, hy, ?_⟩
    unfold putAt at e
    split at e
    · subst e
      exact ⟨rfl, rfl⟩
    · subst e
      exact ⟨rfl, rfl⟩
  · rcases List.mem_append.mp h with q | q
    · exact .inr ⟨x, q, rfl, rfl⟩
    · exact .inl (by simpa using q)
theorem storedAllH_mem (ps : List (NestedKey × Addr × Value)) : ∀ (xs : List (NestedKey × Addr × Value)) {x : NestedKey × Addr × Value}, x ∈ storedAllH xs ps → ∃ y, (y ∈ ps ∨ y ∈ xs) ∧ x.1 = y.1 ∧ x.2.1 = y.2.1 := by
  induction ps with
  | nil => exact fun xs x h => ⟨x, .inr h, rfl, rfl⟩
  | cons p ps ih =>
    intro xs x h
    obtain ⟨y, hy, e1, e2⟩ := ih (storedH xs p.1 p.2.1 p.2.2) h
    rcases hy with hy | hy
    · exact ⟨y, .inl (List.mem_cons_of_mem _ hy), e1, e2⟩
    · rcases storedH_mem hy with e | ⟨z, hz, e3, e4⟩
      · subst e
        exact ⟨p, .inl List.mem_cons_self, e1, e2⟩
      · exact ⟨z, .inr hz, e1.trans e3, e2.trans e4⟩
theorem look_none {kvs : List (PyData × PyData)} {k : PyData} (h : ∀ kv ∈ kvs, nk kv.1 ≠ nk k) : look kvs k = none := by
  induction kvs with
  | nil => rfl
  | cons kv r ih =>
    unfold look
    rw [ih fun z hz => h z (List.mem_cons_of_mem _ hz)]
    exact if_neg (h kv List.mem_cons_self)
theorem rev_pairs {qs : List (Addr × V)} {kvs : List (PyData × PyData)} {us : List Value} {k : PyData} (H : Hp) : Paired (PairOk H) qs kvs → Vals (qs.map (·.2)) us → ∀ {d : PyData}, look kvs k = some d →
    ∃ (u : Value) (v : V), valueAt (pairsH (trip qs kvs us)).reverse (nk k) = some u ∧ RelV v u ∧ DT H v d := fun hp => by
  induction hp generalizing us with
  | nil => exact fun _ d h => by cases h
  | @cons q kv qs kvs a t ih =>
    intro hv d h
    cases hv with
    | @cons _ u _ us r rs =>
      have e1 : pairsH (trip (q :: qs) (kv :: kvs) (u :: us)) = (nk kv.1, u) :: pairsH (trip qs kvs us) := rfl
      rw [e1, List.reverse_cons, valueAt_append]
      unfold look at h
      cases hl : look kvs k with
      | some d' =>
        rw [hl] at h
        obtain ⟨u', v', h1, h2, h3⟩ := ih rs hl
        rw [h1]
        cases h
        exact ⟨u', v', rfl, h2, h3⟩
      | none =>
        rw [hl] at h
        have hn : valueAt (pairsH (trip qs kvs us)).reverse (nk k) = none := by
          rw [valueAt_none]
          intro hm
          obtain ⟨z, hz, ez⟩ := List.mem_map.mp hm
          have hz2 := List.mem_reverse.mp hz
          obtain ⟨y, hy, ey⟩ := List.mem_map.mp (show z ∈ (trip qs kvs us).map (fun x => (x.1, x.2.2)) from hz2)
          obtain ⟨i, q', kv', u', _, h2, _, h4⟩ := trip_mem hy
          have hkv : kv' ∈ kvs := List.mem_of_getElem? h2
          have : nk kv'.1 = nk k := by
            rw [← ez, ← ey, h4]
          clear ih e1 h hm hz hz2
          have hall : ∀ (l : List (PyData × PyData)), kv' ∈ l → look l k = none → False := by
            intro l
            induction l with
            | nil => exact fun h => by cases h
            | cons x l ihl =>
              intro hm hl2
              unfold look at hl2
              cases hx : look l k with
              | some _ => rw [hx] at hl2; cases hl2
              | none =>
                rw [hx] at hl2
                rcases List.mem_cons.mp hm with e | hm
                · subst e
                  rw [if_pos this] at hl2
                  cases hl2
                · exact ihl hm hx
          exact hall kvs hkv hl
        rw [hn]
        have h' : (if nk kv.1 = nk k then some kv.2 else none) = some d := h
        by_cases hk : nk kv.1 = nk k
        · rw [if_pos hk] at h'
          cases h'
          refine ⟨u, q.2, ?_, r, a.2.1⟩
          show valueAt [(nk kv.1, u)] (nk k) = some u
          rw [valueAt_cons, if_pos hk]
        · rw [if_neg hk] at h'
          cases h'
/-! ### the rules -/
section
variable {X : Cx}
/-- the library's dict of that object -/
theorem dic_of {pins : List (Addr × Obj)} {σ : L2.St} {H : Hp} {s : Shared} {p : Addr} {qs : List (Addr × V)} {kvs : List (PyData × PyData)} (I : Inv X pins σ H s) (hp : H p = some (.ext (DicIn X.w p qs kvs))) (hq : Paired (PairOk H) qs kvs) :
    (p == sysModules) = false ∧ ∃ us, Vals (qs.map (·.2)) us ∧ ((∀ x ∈ storedAllH [] (trip qs kvs us), (nestedKind X.prog X.w).is s.heap x.1 x.2.1) ∧ ∃ o es ep, s.heap.get? p = some o ∧ o.ExactDict ∧ o.data = .dict es ep ∧ es.toList = (storedAllH [] (trip qs kvs us)).map (entryOfKey (nestedKind X.prog X.w)) ∧ ((storedAllH [] (trip qs kvs us)).map (·.1)).Nodup) := by
  obtain ⟨⟨hs, us, o, es, ep, hv, ho, hx, hd, he, hn⟩, _, _⟩ := (show ObjOk X.prog X.w H s.heap p (.ext (DicIn X.w p qs kvs)) from I.hok p _ hp)
  refine ⟨hs, us, hv, fun x hx => ?_, o, es, ep, ho, hx, hd, he, hn⟩
  obtain ⟨y, hy, e1, e2⟩ := storedAllH_mem _ _ hx
  rcases hy with hy | hy
  · obtain ⟨i, q, kv, u, h1, h2, h3, h4⟩ := trip_mem hy
    obtain ⟨kv', h5, h6⟩ := paired_get hq h1
    rw [h2] at h5
    cases h5
    have e3 : x.1 = nk kv.1 := by rw [e1, h4]
    have e4 : x.2.1 = q.1 := by rw [e2, h4]
    rw [e3, e4]
    exact ⟨nested_of I h6.2.2.1 h6.1 rfl, by rw [nk_depth _ h6.2.2.1]; exact h6.2.2.2⟩
  · cases hy
/-- d[k], k a key that is there -/
def rIxD (w : World) : R2 := fun x y H Q => ∃ p a k kvs d, x = .ref p ∧ y = .ref a ∧ IsDic w H p kvs ∧ DT H (.ref a) k ∧ keyD k = true ∧ k.depth ≤ 8 ∧ look kvs k = some d ∧ ∀ v, DT H v d → Q v H
theorem ix_dic (hu : X.A.units + 64 < cLine) : IxR X (rIxD X.w) := fun value slice pins s σ H x y v u Q I rx ry h hs => by
  obtain ⟨p, a, k, kvs, d, rfl, rfl, ⟨qs, hp, hq⟩, hk, kk, kd, hl, q⟩ := h
  cases rx
  cases ry
  obtain ⟨_, us, hv, his, o, es, ep, ho, hx, hd, he, hn⟩ := dic_of I hp hq
  obtain ⟨w, z, h1, h2, h3⟩ := rev_pairs H hq hv hl
  have hm : s.heap.DictOfH (nestedKind X.prog X.w) p (storedAllH [] (trip qs kvs us)) := ⟨o, es, ep, ho, hx, hd, he, his, hn⟩
  have hval : valueAt (pairsH (storedAllH [] (trip qs kvs us))) (nk k) = some w := by
    rw [pairsH_storedAllH]
    show valueAt (merged [] (pairsH (trip qs kvs us))) (nk k) = some w
    rw [valueAt_merged, h1]
  have hkey : (nestedKind X.prog X.w).is s.heap (nk k) a := ⟨nested_of I kk hk rfl, by rw [nk_depth _ kk]; exact kd⟩
  have hroom : (nestedKind X.prog X.w).room X.A.in1 := by
    show X.A.units + 1 + 8 < cLine
    omega
  exact subscriptTail_builtinR (x := w) ⟨o, ho, hx.1⟩ PySem.F.slot_dict_getitem.lookup
    (getItem_keyed (Q := fun r s' => r = w ∧ EP X pins σ Q r s') hroom hkey ⟨_, hm, rfl⟩ hval ⟨rfl, z, H, I.tok _, h2, q z h3⟩) hs
theorem refs_of : ∀ {ts : List Addr} {its : List Value}, Vals (ts.map V.ref) its → its = ts.map Value.ref
  | [], _, .nil => rfl
  | t :: ts, _, .cons a b => by
    cases a
    rw [refs_of b]
    rfl
/-- dict(pairs), the pairs in a list -/
def rDict (w : World) : List V → Hp → VK → Prop := fun xs H Q => ∃ (l : Addr) (ts : List Addr) (qs : List (Addr × V)) (kvs : List (PyData × PyData)), xs = [.ref l] ∧ H l = some (.lst (ts.map V.ref)) ∧
  Paired (fun (t : Addr) (q : Addr × V) => H t = some (.tup [.ref q.1, q.2])) ts qs ∧ Paired (PairOk H) qs kvs ∧ ∀ p, H p = none → Q (.ref p) (upd H p (.ext (DicIn w p qs kvs)))
theorem vals_snd {h : Heap} {H : Hp} : ∀ {ts : List Addr} {qs : List (Addr × V)}, Paired (fun (t : Addr) (q : Addr × V) => H t = some (.tup [.ref q.1, q.2])) ts qs → (∀ a xs, H a = some (.tup xs) → ∃ its : List Value, Vals xs its ∧ IsTup h a its.toArray) →
    ∃ us : List Value, Vals (qs.map (·.2)) us ∧ us.length = ts.length ∧ ∀ (i : Nat) (t : Addr) (q : Addr × V), ts[i]? = some t → qs[i]? = some q → ∃ u, us[i]? = some u ∧ h.IsTuple t #[.ref q.1, u]
  | [], [], _, _ => ⟨[], .nil, rfl, fun i t q h1 _ => by simp at h1⟩
  | t :: ts, q :: qs, .cons a b, f => by
    obtain ⟨us, h1, h2, h3⟩ := vals_snd b f
    obtain ⟨its, r, p⟩ := f _ _ a
    cases r with
    | cons r1 rr =>
      cases rr with
      | cons r2 rr =>
        cases rr
        cases r1
        refine ⟨_ :: us, .cons r2 h1, by simp [h2], fun i t' q' e1 e2 => ?_⟩
        cases i with
        | zero =>
          simp at e1 e2
          subst e1 e2
          exact ⟨_, rfl, p⟩
        | succ i => exact h3 i t' q' (by simpa using e1) (by simpa using e2)
theorem call_dict (hc : X.calm = true) (hu : X.A.units + 64 < cLine) : CallR X (.type "dict") (rDict X.w) := fun pins s σ H xs us Q I r h => by
  obtain ⟨l, ts, qs, kvs, rfl, hl, ht, hq, q⟩ := h
  obtain ⟨u, rfl, r1⟩ := vals1 r
  cases r1
  have hh : X.A.handled = none := I.ok.hd hc
  obtain ⟨hz, its, n, rv, ho⟩ := (show ObjOk X.prog X.w H s.heap l (.lst (ts.map V.ref)) from I.hok l _ hl)
  have ei : its = ts.map Value.ref := by
    exact refs_of rv
  subst ei
  obtain ⟨ws, hv, hwl, hw⟩ := vals_snd (h := s.heap) ht fun a xs e => let ⟨_, its, r, p⟩ := I.hok a _ e; ⟨its, r, p⟩
  have l1 : ts.length = qs.length := Paired.length ht
  have l2 : qs.length = kvs.length := Paired.length hq
  have tl : (trip qs kvs ws).length = kvs.length := trip_len l2 (by omega)
  have at_ : ∀ (j : Nat), j < ts.length → ∃ t q kv w, ts[j]? = some t ∧ qs[j]? = some q ∧ kvs[j]? = some kv ∧ ws[j]? = some w ∧ s.heap.IsTuple t #[.ref q.1, w] ∧ PairOk H q kv := fun j hj => by
    have e1 := List.getElem?_eq_getElem hj
    have e2 := List.getElem?_eq_getElem (show j < qs.length by omega)
    obtain ⟨w, e3, e4⟩ := hw j _ _ e1 e2
    obtain ⟨kv, e5, e6⟩ := paired_get hq e2
    exact ⟨_, _, kv, w, e1, e2, e5, e3, e4, e6⟩
  let ps : List (Value × Value) := (trip qs kvs ws).map fun x => (.ref x.2.1, x.2.2)
  have psl : ps.length = ts.length := by
    show ((trip qs kvs ws).map _).length = _
    rw [List.length_map, tl]
    omega
  have psat : ∀ (j : Nat) (k v : Value), ps[j]? = some (k, v) → ∃ t q kv w, ts[j]? = some t ∧ qs[j]? = some q ∧ kvs[j]? = some kv ∧ k = .ref q.1 ∧ v = w ∧ s.heap.IsTuple t #[.ref q.1, w] ∧ PairOk H q kv ∧ (trip qs kvs ws)[j]? = some (nk kv.1, q.1, w) := fun j k v e => by
    have hj : j < ts.length := by
      rw [← psl]
      exact (List.getElem?_eq_some_iff.mp e).1
    obtain ⟨t, q, kv, w, e1, e2, e3, e4, e5, e6⟩ := at_ j hj
    have e7 := trip_get e2 e3 e4
    have e8 : ps[j]? = some (.ref q.1, w) := by
      show ((trip qs kvs ws).map _)[j]? = _
      rw [List.getElem?_map, e7]
      rfl
    rw [e] at e8
    cases e8
    exact ⟨t, q, kv, _, e1, e2, e3, rfl, rfl, e5, e6, e7⟩
  have PA := PairArg.list (prog := X.prog) (w := X.w) l (ts.map Value.ref).toArray (fun j => ts.getD j 0) ps
  have okP : PlainSeq "list" s.heap l (ts.map Value.ref).toArray ∧ PairItems s.heap (ts.map Value.ref).toArray (fun j => ts.getD j 0) ps := by
    refine ⟨⟨_, n, ho, rfl, rfl, rfl⟩, ?_, fun j k v e => ?_⟩
    · rw [List.size_toArray, List.length_map, psl]
    · obtain ⟨t, q, kv, w, e1, e2, e3, rfl, rfl, e5, e6, _⟩ := psat j k v e
      have e7 : ts.getD j 0 = t := by rw [List.getD_eq_getElem?_getD, e1]; rfl
      refine ⟨?_, .inl ?_⟩
      · show (ts.map Value.ref).toArray[j]? = some (.ref (ts.getD j 0))
        rw [e7]
        simp [e1]
      · show s.heap.IsTuple (ts.getD j 0) _
        rw [e7]
        exact e5
  have hroom : (nestedKind X.prog X.w).room X.A.in1.in1 := by
    show X.A.units + 1 + 1 + 8 < cLine
    omega
  have kind : ∀ x ∈ trip qs kvs ws, (nestedKind X.prog X.w).is s.heap x.1 x.2.1 := fun x hx => by
    obtain ⟨i, q, kv, u, h1, h2, h3, h4⟩ := trip_mem hx
    obtain ⟨kv', h5, h6⟩ := paired_get hq h1
    rw [h2] at h5
    cases h5
    rw [h4]
    exact ⟨nested_of I h6.2.2.1 h6.1 rfl, by rw [nk_depth _ h6.2.2.1]; exact h6.2.2.2⟩
  refine call_dict_pairsH (knd := nestedKind X.prog X.w) (ps := trip qs kvs ws) PA hh hroom okP ⟨?_, fun i key v e => ?_⟩ (fun h' hk x hx => ?_) (by rw [psl]; rw [List.length_map] at hz; exact hz) fun h' tk hd hk => ?_
  · rw [tl, psl]
    omega
  · obtain ⟨t, q, kv, w, e1, e2, e3, rfl, rfl, e5, e6, e7⟩ := psat i key v e
    exact ⟨_, _, e7, rfl⟩
  · exact nestedKind_stays.stays (fun b o _ _ e _ => hk b o (Nat.ne_of_lt (Heap.lt_size e)) (fun z => nomatch z) e) (kind x hx)
  · obtain ⟨o, es, ep, d1, d2, d3, d4, _, d5⟩ := hd
    have hf := I.hok.fresh (Nat.le_refl s.heap.objs.size)
    have kp : ∀ b o, s.heap.get? b = some o → h'.get? b = some o := fun b o e => hk b o (fun z => nomatch z) e
    have hsys : (s.heap.objs.size == sysModules) = false := by
      exact beq_eq_false_iff_ne.mpr (Nat.ne_of_gt I.big)
    refine ⟨.ref s.heap.objs.size, _, I.laid (t' := tk) (o := .ext (DicIn X.w s.heap.objs.size qs kvs)) kp (Nat.le_refl _) ?_, rfl, q _ hf⟩
    refine ⟨⟨hsys, ws, o, es, ep, hv, d1, d2, d3, d4, d5⟩, ⟨o, d1⟩, fun h1 h2 hh1 st => ?_⟩
    obtain ⟨a0, ws', o', es', ep', a1, a2, a3, a4, a5, a6⟩ := hh1
    exact ⟨a0, ws', o', es', ep', a1, st _ a2, a3, a4, a5, a6⟩
/-- list(d): the keys, each as it first stood -/
def rListD (w : World) : List V → Hp → VK → Prop := fun xs H Q => ∃ p kvs, xs = [.ref p] ∧ IsDic w H p kvs ∧ kvs.length ≤ 1000 ∧ ∀ (bs : List Addr) (ks : List PyData), DTs H (bs.map V.ref) ks → (∀ k, k ∈ ks ↔ k ∈ kvs.map (·.1)) → ∀ l, H l = none → Q (.ref l) (upd H l (.lst (bs.map V.ref)))
theorem mem_stored {xs : List (NestedKey × Addr × Value)} {k : NestedKey} {a : Addr} {v : Value} : ∀ j, j ∈ (storedH xs k a v).map (·.1) ↔ j = k ∨ j ∈ xs.map (·.1) := fun j => by
  unfold storedH
  split
  · rename_i h
    have e : (xs.map (putAt k v)).map (·.1) = xs.map (·.1) := by
      rw [List.map_map]
      refine List.map_congr_left fun x _ => ?_
      show (putAt k v x).1 = x.1
      unfold putAt
      split <;> rfl
    rw [e]
    refine ⟨.inr, fun q => q.elim (fun e => ?_) id⟩
    obtain ⟨p, hp⟩ := Option.isSome_iff_exists.mp h
    unfold atKey at hp
    obtain ⟨y, hy, _⟩ := Option.map_eq_some_iff.mp hp
    have h1 := List.mem_of_find?_eq_some hy
    have h2 := List.find?_some hy
    rw [e]
    exact List.mem_map.mpr ⟨y, h1, of_decide_eq_true h2⟩
  · rw [List.map_append, List.mem_append]
    constructor
    · intro q
      rcases q with q | q
      · exact .inr q
      · exact .inl (by simpa using q)
    · intro q
      rcases q with q | q
      · exact .inr (by simp [q])
      · exact .inl q
theorem mem_storedAll (ps : List (NestedKey × Addr × Value)) : ∀ (xs : List (NestedKey × Addr × Value)) j, j ∈ (storedAllH xs ps).map (·.1) ↔ j ∈ ps.map (·.1) ∨ j ∈ xs.map (·.1) := by
  induction ps with
  | nil => exact fun xs j => ⟨.inr, fun q => q.elim (fun z => by cases z) id⟩
  | cons p ps ih =>
    intro xs j
    show j ∈ (storedAllH (storedH xs p.1 p.2.1 p.2.2) ps).map (·.1) ↔ _
    rw [ih, mem_stored, List.map_cons, List.mem_cons]
    constructor
    · rintro (q | q | q)
      · exact .inl (.inr q)
      · exact .inl (.inl q)
      · exact .inr q
    · rintro ((q | q) | q)
      · exact .inr (.inl q)
      · exact .inl q
      · exact .inr (.inr q)
/-- of keys and addresses that are pairs' keys: the data of each -/
theorem data_of {H : Hp} {qs : List (Addr × V)} {kvs : List (PyData × PyData)} {us : List Value} (hq : Paired (PairOk H) qs kvs) : ∀ (xs : List (NestedKey × Addr × Value)), (∀ x ∈ xs, ∃ y ∈ trip qs kvs us, x.1 = y.1 ∧ x.2.1 = y.2.1) →
    ∃ ks : List PyData, DTs H (xs.map fun x => V.ref x.2.1) ks ∧ ks.map nk = xs.map (·.1) ∧ ∀ k ∈ ks, k ∈ kvs.map (·.1) ∧ keyD k = true
  | [], _ => ⟨[], .nil, rfl, fun _ h => by cases h⟩
  | x :: xs, h => by
    obtain ⟨ks, h1, h2, h3⟩ := data_of hq xs fun z hz => h z (List.mem_cons_of_mem _ hz)
    obtain ⟨y, hy, e1, e2⟩ := h x List.mem_cons_self
    obtain ⟨i, q, kv, u, g1, g2, g3, g4⟩ := trip_mem hy
    obtain ⟨kv', g5, g6⟩ := paired_get hq g1
    rw [g2] at g5
    cases g5
    refine ⟨kv.1 :: ks, .cons ?_ h1, ?_, fun k hk => ?_⟩
    · show DT H (.ref x.2.1) kv.1
      rw [e2, g4]
      exact g6.1
    · rw [List.map_cons, List.map_cons, h2, e1, g4]
    · rcases List.mem_cons.mp hk with e | hk
      · subst e
        exact ⟨List.mem_map.mpr ⟨kv, List.mem_of_getElem? g2, rfl⟩, g6.2.2.1⟩
      · exact h3 k hk
theorem call_listD (hc : X.calm = true) : CallR X (.type "list") (rListD X.w) := fun pins s σ H xs us Q I r h => by
  obtain ⟨p, kvs, rfl, ⟨qs, hp, hq⟩, hz, q⟩ := h
  obtain ⟨u, rfl, r1⟩ := vals1 r
  cases r1
  obtain ⟨hs, ws, hv, his, o, es, ep, ho, hx, hd, he, hn⟩ := dic_of I hp hq
  obtain ⟨ks, k1, k2, k3⟩ := data_of (us := ws) hq (storedAllH [] (trip qs kvs ws)) fun x hx => by
    obtain ⟨y, hy, e⟩ := storedAllH_mem _ _ hx
    rcases hy with hy | hy
    · exact ⟨y, hy, e⟩
    · cases hy
  have lq : qs.length = kvs.length := Paired.length hq
  have lw : ws.length = kvs.length := by
    have := hv.length
    rw [List.length_map] at this
    omega
  have mem : ∀ k, k ∈ ks ↔ k ∈ kvs.map (·.1) := fun k => by
    refine ⟨fun h => (k3 k h).1, fun h => ?_⟩
    obtain ⟨kv, hkv, e⟩ := List.mem_map.mp h
    obtain ⟨i, hi, ei⟩ := List.getElem_of_mem hkv
    have g2 : kvs[i]? = some kv := by rw [← ei]; exact List.getElem?_eq_getElem hi
    have g1 := List.getElem?_eq_getElem (show i < qs.length by omega)
    have g3 := List.getElem?_eq_getElem (show i < ws.length by omega)
    have g4 := trip_get g1 g2 g3
    have m : nk kv.1 ∈ (storedAllH [] (trip qs kvs ws)).map (·.1) := by
      rw [mem_storedAll]
      exact .inl (List.mem_map.mpr ⟨_, List.mem_of_getElem? g4, rfl⟩)
    rw [← k2] at m
    obtain ⟨k', hk', e'⟩ := List.mem_map.mp m
    obtain ⟨kv', g5, g6⟩ := paired_get hq g1
    rw [g2] at g5
    cases g5
    have : k' = kv.1 := nk_inj (k3 k' hk').2 g6.2.2.1 e'
    rw [← e, ← this]
    exact hk'
  have l1 : es.size = (storedAllH [] (trip qs kvs ws)).length := size_of_entries he
  have l3 : (storedAllH [] (trip qs kvs ws)).length ≤ sizeLine := by
    have l4 := storedAllH_length (trip qs kvs ws) []
    rw [trip_len lq lw] at l4
    exact Nat.le_trans l4 (Nat.le_trans (by simpa using hz) (by decide))
  refine PySem.W.kdl_call (kdl_raw hs hx hd) (I.ok.hd hc) ho (by omega) fun h' tk acc' c' kp e it => ?_
  have eb : acc'.toList = ((storedAllH [] (trip qs kvs ws)).map fun x => x.2.1).map Value.ref := by
    apply List.ext_getElem?
    intro j
    rw [List.map_map, List.getElem?_map]
    have hl : acc'.toList.length = (storedAllH [] (trip qs kvs ws)).length := by rw [Array.length_toList, it.1]; exact l1
    cases hj : acc'.toList[j]? with
    | none =>
      have h1 := List.getElem?_eq_none_iff.mp hj
      rw [List.getElem?_eq_none (by omega)]
      rfl
    | some v =>
      obtain ⟨en, hen, hv'⟩ := it.2 j v (by rw [← Array.getElem?_toList]; exact hj)
      have qe := entry_at he j
      rw [hen] at qe
      cases hb : (storedAllH [] (trip qs kvs ws))[j]? with
      | none =>
        rw [hb] at qe
        cases qe
      | some b =>
        rw [hb] at qe
        have e2 : en = entryOfKey (nestedKind X.prog X.w) b := Option.some.inj qe
        rw [hv', e2]
        rfl
  have rv : Vals (((storedAllH [] (trip qs kvs ws)).map fun x => x.2.1).map V.ref) acc'.toList := by
    rw [eb]
    exact vals_refs _
  have dt : DTs H (((storedAllH [] (trip qs kvs ws)).map fun x => x.2.1).map V.ref) ks := by
    rw [List.map_map]
    exact k1
  refine ⟨.ref s.heap.objs.size, _, I.laid (t' := tk) (o := .lst (((storedAllH [] (trip qs kvs ws)).map fun x => x.2.1).map V.ref)) kp (Nat.le_refl _) ?_, rfl, q _ ks dt mem _ (I.hok.fresh (Nat.le_refl _))⟩
  exact ⟨by rw [List.length_map, List.length_map]; exact l3, acc'.toList, c', rv, by rw [Array.toArray_toList]; exact e⟩
end
end Dl
set_option Elab.async false
set_option linter.all false
set_option maxRecDepth 100000
set_option autoImplicit false
/-! Dl4: subscripts, slices, isinstance, methods of texts, dicts: what they give as data. -/
namespace Dl
open PySem PySem.Spec PyProof.Rows L2
/-! ### subscripts -/
def rIxA (K : PySem.W.Frag) (w : World) : R2 := fun x y H Q => rIxL K x y H Q ∨ rIxT K x y H Q ∨ rIxS x y H Q ∨ rIxD w x y H Q
theorem ixA {X : Cx} (hu : X.A.units + 64 < cLine) : IxR X (rIxA X.K X.w) := IxR.or ix_list (IxR.or ix_tup (IxR.or ix_str (ix_dic hu)))
section
variable {P : Pm} {G : List Rs} {n : Int} {Q : Rs → Prop} {x y d : PyData} {xs ys : List PyData} {i j : Int} {s t : Str} {kvs : List (PyData × PyData)}
theorem ow_ixT (h : atI xs i = some d) (q : Q (.d d)) : OW P (rIxA P.K P.w) (.d (.tuple xs)) (.d (.int i)) Q := fun C n H vx vy R _ g rx ry k => by
  obtain ⟨p, vs, rfl, h2, ts⟩ := rep_t rx
  cases ry
  obtain ⟨v, h3, h4⟩ := ts.ats h
  exact .inr (.inl ⟨p, vs, i, v, rfl, rfl, SqT.of h2, h3, k _ _ H q (Keep.refl C H) g.dr h4 trivial⟩)
theorem ow_ixL {r : Rs} (e : r = .l xs ∨ r = .r xs) (h : atI xs i = some d) (q : Q (.d d)) : OW P (rIxA P.K P.w) r (.d (.int i)) Q := fun C n H vx vy R _ g rx ry k => by
  obtain ⟨p, vs, rfl, h2, ts⟩ := rep_l rx e
  cases ry
  obtain ⟨v, h3, h4⟩ := ts.ats h
  exact .inl ⟨p, vs, i, v, rfl, rfl, SqL.of h2, h3, k _ _ H q (Keep.refl C H) g.dr h4 trivial⟩
theorem atI_map {α β : Type} {f : α → β} {l : List α} {a : α} (h : atI l i = some a) : atI (l.map f) i = some (f a) := by
  unfold atI at h ⊢
  rw [List.length_map]
  cases q : ixN l.length i with
  | none => rw [q] at h; cases h
  | some m =>
    rw [q] at h
    show (l.map f)[m]? = some (f a)
    rw [List.getElem?_map, show l[m]? = some a from h]
    rfl
theorem ow_ixW (h : atI P.ns i = some j) (q : Q (.d (.int j))) : OW P (rIxA P.K P.w) .s (.d (.int i)) Q := fun C n H vx vy R hP g rx ry k => by
  cases rx
  cases ry
  subst hP
  exact .inl ⟨C.scr, _, i, .int j, rfl, rfl, g.scr_at, atI_map h, k _ _ H q (Keep.refl C H) g.dr (show DT H _ _ from .int _) trivial⟩
theorem ow_ixS {c : Nat} (hz : s.length ≤ 1000) (h : atI s.cps.toList i = some c) (hc : PyData.strOk ⟨#[c]⟩ = true) (q : Q (.d (.str ⟨#[c]⟩))) : OW P (rIxA P.K P.w) (.d (.str s)) (.d (.int i)) Q := fun C n H vx vy R _ g rx ry k => by
  cases rx
  cases ry
  exact .inr (.inr (.inl ⟨s, i, c, rfl, rfl, Nat.le_trans hz (by decide), h, k _ _ H q (Keep.refl C H) g.dr (show DT H _ _ from .str _ hc) trivial⟩))
theorem ow_ixD {ks : List PyData} (hk : keyD (.tuple ks) = true) (hd : (PyData.tuple ks).depth ≤ 8) (h : look kvs (.tuple ks) = some d) (q : Q (.d d)) : OW P (rIxA P.K P.w) (.t kvs) (.d (.tuple ks)) Q := fun C n H vx vy R hP g rx ry k => by
  obtain ⟨p, rfl, hp⟩ := rx
  obtain ⟨a, vs, rfl, h2, ts⟩ := rep_t ry
  subst hP
  exact .inr (.inr (.inr ⟨p, a, _, kvs, d, rfl, rfl, hp, .tup h2 ts, hk, hd, h, fun v hv => k _ _ H q (Keep.refl C H) g.dr hv trivial⟩))
/-- draw[0] | draw[1] -/
theorem ew_w0 {k : Nat} {Q : Rs → Int → Prop} (h : G[k]? = some .w) (q : Q .s n) : EW P (tOp (rIxA P.K P.w) (tVar k) (tC (.int 0))) G n Q := fun C σ H R _ g kk => by
  obtain ⟨v, h1, p, rfl, h2⟩ := g.rep k .w h (fun z => nomatch z)
  refine ⟨.ref p, h1, .inl ⟨p, _, 0, _, rfl, rfl, SqL.of (g.frm.dr p h2), rfl, ?_⟩⟩
  exact kk _ n _ H q (Keep.refl C H) g.frm.dr rfl trivial
theorem ew_w1 {k : Nat} {Q : Rs → Int → Prop} (h : G[k]? = some .w) (q : Q (.d (.int n)) n) : EW P (tOp (rIxA P.K P.w) (tVar k) (tC (.int 1))) G n Q := fun C σ H R _ g kk => by
  obtain ⟨v, h1, p, rfl, h2⟩ := g.rep k .w h (fun z => nomatch z)
  refine ⟨.ref p, h1, .inl ⟨p, _, 1, _, rfl, rfl, SqL.of (g.frm.dr p h2), rfl, ?_⟩⟩
  exact kk _ n _ H q (Keep.refl C H) g.frm.dr (show DT H _ _ from .int _) trivial
/-! ### slices -/
def rSlD (K : PySem.W.Frag) : V → Option Int → Option Int → Hp → VK → Prop := fun x lo hi H Q => rSlL K x lo hi H Q ∨ rSlA K x lo hi H Q ∨ rSlS x lo hi H Q
theorem slD {X : Cx} : SlR X (rSlD X.K) := SlR.or sl_list (SlR.or sl_tupA sl_str)
/-- a list's part -/
def cutD (xs : List PyData) (lo hi : Option Int) : List PyData := (xs.drop (HT.sIx xs.length 0 lo)).take (HT.sIx xs.length xs.length hi - HT.sIx xs.length 0 lo)
theorem DTs.cut {H : Hp} {vs : List V} (t : DTs H vs xs) (lo hi : Option Int) : DTs H (cutV vs lo hi) (cutD xs lo hi) := by
  unfold cutV cutD
  rw [t.length]
  exact (t.drop _).take _
section
variable (P)
def OP (to : TO) (G : List Rs) (n : Int) (Q : Option Int → Int → Prop) : Prop := ∀ (C : Cn) (σ : L2.St) (H : Hp) (R : Option Int → Hp → Prop), C.pm = P → Good C G n σ H →
  (∀ o n' H', Q o n' → Keep C H H' → Dr C n' H' → R o H') → to σ H R
def LW (r : V → Option Int → Option Int → Hp → VK → Prop) (x : Rs) (lo hi : Option Int) (Q : Rs → Prop) : Prop := ∀ (C : Cn) (n : Int) (H : Hp) (vx : V) (R : VK), C.pm = P → Frm C n H → Rep C H x vx →
  (∀ z v H', Q z → Keep C H H' → Dr C n H' → Rep C H' z v → Fresh H z v → R v H') → r vx lo hi H R
end
theorem op_no {Q : Option Int → Int → Prop} (q : Q none n) : OP P tNoPart G n Q := fun C σ H R _ g k => k none n H q (Keep.refl C H) g.frm.dr
theorem op_int {te : TE} {Q : Option Int → Int → Prop} (h : EW P te G n fun x n1 => ∃ i, x = .d (.int i) ∧ Q (some i) n1) : OP P (tPart te) G n Q := fun C σ H R hP g k =>
  h C σ H _ hP g fun x n1 v H1 q1 k1 d1 r1 _ => by
    obtain ⟨i, rfl, q⟩ := q1
    cases r1
    exact ⟨i, rfl, k (some i) n1 H1 q k1 d1⟩
theorem ew_sl {r : V → Option Int → Option Int → Hp → VK → Prop} {te : TE} {tl th : TO} {Q : Rs → Int → Prop} (h : EW P te G n fun x n1 => OP P tl G n1 fun lo n2 => OP P th G n2 fun hi n3 => LW P r x lo hi fun z => Q z n3) : EW P (tSl r te tl th) G n Q := fun C σ H R hP g k =>
  h C σ H _ hP g fun x n1 vx H1 q1 k1 d1 r1 _ => q1 C σ H1 _ hP (g.keep k1 d1) fun lo n2 H2 q2 k2 d2 => q2 C σ H2 _ hP ((g.keep k1 d1).keep k2 d2) fun hi n3 H3 q3 k3 d3 =>
    q3 C n3 H3 vx R hP (((g.keep k1 d1).keep k2 d2).keep k3 d3).frm ((r1.keep k2 d1).keep k3 d2) fun z v H4 qz k4 d4 r4 f4 =>
      k z n3 v H4 qz (((k1.trans k2).trans k3).trans k4) d4 r4 (f4.back ((k1.trans k2).trans k3) g.frm.dr d3)
theorem lw_L {lo hi : Option Int} {r : Rs} (e : r = .l xs ∨ r = .r xs) (q : Q (.l (cutD xs lo hi))) : LW P (rSlD P.K) r lo hi Q := fun C n H vx R _ g rx k => by
  obtain ⟨p, vs, rfl, h2, ts⟩ := rep_l rx e
  exact .inl ⟨p, vs, rfl, SqL.of h2, new_lst g (ts.cut lo hi) q k⟩
theorem lw_T {lo hi : Option Int} (q : Q (.d (.tuple (cutD xs lo hi)))) : LW P (rSlD P.K) (.d (.tuple xs)) lo hi Q := fun C n H vx R _ g rx k => by
  obtain ⟨p, vs, rfl, h2, ts⟩ := rep_t rx
  refine .inr (.inl ⟨p, vs, rfl, SqT.of h2, fun e => ?_, fun _ => new_tup g (ts.cut lo hi) q k⟩)
  have e2 : cutD xs lo hi = xs := by
    rw [ts.length] at e
    unfold cutD
    rw [e.1, e.2, Nat.sub_zero, List.drop_zero, List.take_length]
  rw [e2] at q
  exact k _ _ H q (Keep.refl C H) g.dr rx trivial
theorem lw_S {lo hi : Option Int} (hz : s.length ≤ 1000) (ho : PyData.strOk (cutS s lo hi) = true) (q : Q (.d (.str (cutS s lo hi)))) : LW P (rSlD P.K) (.d (.str s)) lo hi Q := fun C n H vx R _ g rx k => by
  cases rx
  exact .inr (.inr ⟨s, rfl, Nat.le_trans hz (by decide), k _ _ H q (Keep.refl C H) g.dr (show DT H _ _ from .str _ ho) trivial⟩)
/-! ### isinstance -/
def clsD : PyData → String
  | .none => "NoneType"
  | .bool _ => "bool"
  | .int _ => "int"
  | .str _ => "str"
  | .list _ => "list"
  | .tuple _ => "tuple"
  | .dict _ => "dict"
theorem tyx_of {K : PySem.W.Frag} {H : Hp} {v : V} (h : DT H v x) : TyX K H v (.type (clsD x)) := by
  cases h with
  | non => exact .base .non
  | bl b => exact .base (.bl b)
  | int i => exact .base (.int i)
  | str x _ => exact .base (.str x)
  | tup h _ => exact .base (.tup h)
theorem ew_isi {te : TE} {T : String} {Q : Rs → Int → Prop} (h : EW P te G n fun x n1 => ∃ d b, x = .d d ∧ kitB (clsD d) T = some b ∧ Q (.d (.bool b)) n1) : EW P (tCB (rIsi P.K) (tCons te (tCons (tC (.ty T)) tNil))) G n Q := fun C σ H R hP g k =>
  h C σ H _ hP g fun x n1 v H1 q1 k1 d1 r1 _ => by
    obtain ⟨d, b, rfl, e, q⟩ := q1
    exact ⟨v, .ty T, _, _, b, rfl, .ty T, tyx_of r1, kit_ty e, k _ n1 _ H1 q k1 d1 (show DT H1 _ _ from .bl b) trivial⟩
/-! ### dicts -/
theorem cw_listD {Q : Rs → Prop} (hl : kvs.length ≤ 1000) (q : ∀ ks : List PyData, (∀ k, k ∈ ks ↔ k ∈ kvs.map (·.1)) → Q (.l ks)) : CW P (rListD P.w) [.t kvs] Q := fun C n H vs R hP g rx k => by
  cases rx with
  | cons r rr =>
    cases rr
    obtain ⟨p, rfl, hp⟩ := r
    subst hP
    exact ⟨p, kvs, rfl, hp, hl, fun bs ks t m => new_lst g t (q ks m) k⟩
/-- a pair of a key and a value, as data -/
def prD (kv : PyData × PyData) : PyData := .tuple [kv.1, kv.2]
theorem pairs_of {H : Hp} : ∀ {kvs : List (PyData × PyData)} {vs : List V}, DTs H vs (kvs.map prD) → (∀ kv ∈ kvs, keyD kv.1 = true ∧ kv.1.depth ≤ 8 ∧ ∃ ks, kv.1 = .tuple ks) →
    ∃ (ts : List Addr) (qs : List (Addr × V)), vs = ts.map V.ref ∧ Paired (fun (t : Addr) (q : Addr × V) => H t = some (.tup [.ref q.1, q.2])) ts qs ∧ Paired (PairOk H) qs kvs
  | [], _, .nil, _ => ⟨[], [], rfl, .nil, .nil⟩
  | kv :: kvs, _, .cons a b, h => by
    obtain ⟨ts, qs, e, p1, p2⟩ := pairs_of b fun z hz => h z (List.mem_cons_of_mem _ hz)
    obtain ⟨h1, h2, ks, h3⟩ := h kv List.mem_cons_self
    obtain ⟨t, vs, rfl, h4, h5⟩ := rep_t a
    cases h5 with
    | cons c1 c2 =>
      cases c2 with
      | cons c2 c3 =>
        cases c3
        have c1' := c1
        rw [h3] at c1'
        obtain ⟨a, _, rfl, _, _⟩ := rep_t c1'
        exact ⟨t :: ts, (a, _) :: qs, by rw [e]; rfl, .cons h4 p1, .cons ⟨c1, c2, h1, h2⟩ p2⟩
theorem cw_dict {r : Rs} (e : r = .l (kvs.map prD) ∨ r = .r (kvs.map prD)) (hk : ∀ kv ∈ kvs, keyD kv.1 = true ∧ kv.1.depth ≤ 8 ∧ ∃ ks, kv.1 = .tuple ks) (q : Q (.t kvs)) : CW P (rDict P.w) [r] Q := fun C n H vs R hP g rx k => by
  cases rx with
  | cons r rr =>
    cases rr
    obtain ⟨p, vs, rfl, h2, ts⟩ := rep_l r e
    obtain ⟨t, qs, e1, p1, p2⟩ := pairs_of ts hk
    subst e1 hP
    refine ⟨p, t, qs, kvs, rfl, h2, p1, p2, fun d hd => k _ _ _ q (Keep.new hd) (g.dr.new hd) ⟨d, rfl, qs, upd_same, ?_⟩ trivial⟩
    exact Paired.mapP p2 fun _ _ z => z.mono ((Keep.new (C := C) hd).tx g.dr)
/-! ### texts -/
def rJoin (K : PySem.W.Frag) : V → List V → Hp → VK → Prop := fun x xs H Q => ∃ a p, ∃ ys : List Str, x = .str a ∧ xs = [.ref p] ∧ (SqL K H p (ys.map V.str) ∨ SqT K H p (ys.map V.str)) ∧
  (ys.map (·.length)).sum + ys.length * a.length ≤ 16777216 ∧ Q (.str (Txt.join a ys)) H
theorem mt_joinA {X : Cx} : MtR X "str.join" (rJoin X.K) := mt_join
def rIndexS : V → List V → Hp → VK → Prop := fun x xs H Q => ∃ a b i rest, x = .str a ∧ xs = [.str b] ∧ Builtin.Str.occurrences a b 0 a.length 1 = i :: rest ∧ Q (.int (i : Nat)) H
theorem mt_indexA {X : Cx} : MtR X "str.index" rIndexS := mt_sindex
section
variable (P)
/-- a method of a value -/
def MW (K : PySem.W.Frag) (T : String) (r : V → List V → Hp → VK → Prop) (x : Rs) (xs : List Rs) (Q : Rs → Prop) : Prop := ∀ (C : Cn) (n : Int) (H : Hp) (vx : V) (vs : List V) (R : VK), C.pm = P → Frm C n H → Rep C H x vx → Paired (Rep C H) xs vs →
  (∀ z v H', Q z → Keep C H H' → Dr C n H' → Rep C H' z v → Fresh H z v → R v H') → r vx vs H R
end
theorem ew_bmS {r : V → List V → Hp → VK → Prop} {to : TE} {ta : TA} {Q : Rs → Int → Prop} (h : EW P to G n fun x n1 => ∃ s, x = .d (.str s) ∧ EA P ta G n1 fun xs n2 => MW P P.K "str" r x xs fun z => Q z n2) : EW P (tBM P.K "str" r to ta) G n Q := fun C σ H R hP g k =>
  h C σ H _ hP g fun x n1 vx H1 q1 k1 d1 r1 _ => by
    obtain ⟨s, rfl, q1⟩ := q1
    cases r1
    refine ⟨rfl, q1 C σ H1 _ hP (g.keep k1 d1) fun xs n2 vs H2 q2 k2 d2 r2 => ?_⟩
    exact q2 C n2 H2 _ vs R hP ((g.keep k1 d1).keep k2 d2).frm (Rep.keep (r := .d (.str s)) (show DT H1 _ _ from .str s (by assumption)) k2 d1) (paired_imp r2 fun _ _ z => z.1) fun z v H3 qz k3 d3 r3 f3 =>
      k z n2 v H3 qz ((k1.trans k2).trans k3) d3 r3 (f3.back (k1.trans k2) g.frm.dr d2)
theorem strs_of {H : Hp} : ∀ {ys : List Str} {vs : List V}, DTs H vs (ys.map PyData.str) → vs = ys.map V.str
  | [], _, .nil => rfl
  | y :: ys, _, .cons a b => by
    rw [strs_of b]
    cases a
    rfl
theorem mw_join {ys : List Str} {r : Rs} (e : r = .l (ys.map PyData.str) ∨ r = .r (ys.map PyData.str)) (hz : (ys.map (·.length)).sum + ys.length * s.length ≤ 1000) (ho : PyData.strOk (Txt.join s ys) = true) (q : Q (.d (.str (Txt.join s ys)))) : MW P P.K "str" (rJoin P.K) (.d (.str s)) [r] Q := fun C n H vx vs R _ g rx ra k => by
  cases rx
  cases ra with
  | cons r rr =>
    cases rr
    obtain ⟨p, vs, rfl, h2, ts⟩ := rep_l r e
    rw [strs_of ts] at h2
    exact ⟨s, p, ys, rfl, rfl, .inl (SqL.of h2), by omega, k _ _ H q (Keep.refl C H) g.dr (show DT H _ _ from .str _ ho) trivial⟩
theorem mw_index {m : Nat} {rest : List Nat} (h : Builtin.Str.occurrences s t 0 s.length 1 = m :: rest) (q : Q (.d (.int (m : Nat)))) : MW P P.K "str" rIndexS (.d (.str s)) [.d (.str t)] Q := fun C n H vx vs R _ g rx ra k => by
  cases rx
  cases ra with
  | cons r rr =>
    cases rr
    cases r
    exact ⟨s, t, m, rest, rfl, rfl, h, k _ _ H q (Keep.refl C H) g.dr (show DT H _ _ from .int _) trivial⟩
end
end Dl
set_option Elab.async false
set_option linter.all false
set_option maxRecDepth 100000
set_option autoImplicit false
/-! Dl5: statements, loops, comprehensions, calls, defs, by data. -/
namespace Dl
open PySem PySem.Spec PyProof.Rows L2
structure DE where
  nx : List Rs → Int → Prop
  rt : Rs → Int → Prop
  bk : List Rs → Int → Prop := fun _ _ => False
  ct : List Rs → Int → Prop := fun _ _ => False
structure Imp (C : Cn) (D : DE) (E : Ends) : Prop where
  nx : ∀ G n σ H, D.nx G n → Good C G n σ H → E.nx σ H
  rt : ∀ r n v H, D.rt r n → Frm C n H → Rep C H r v → (∀ xs, r = .l xs → ∀ p, v = .ref p → C.H_0 p = none) → E.rt v H
  bk : ∀ G n σ H, D.bk G n → Good C G n σ H → E.bk σ H
  ct : ∀ G n σ H, D.ct G n → Good C G n σ H → E.ct σ H
section
variable (P : Pm)
def SW (t : TS) (G : List Rs) (n : Int) (D : DE) : Prop := ∀ (C : Cn) (σ : L2.St) (H : Hp) (E : Ends), C.pm = P → Good C G n σ H → Imp C D E → t E σ H
end
/-! ### a base within a body: all that stands but what is ours -/
def NotOwn (G : List Rs) (σ : L2.St) (a : Addr) : Prop := ∀ (i : Nat) (xs : List PyData), G[i]? = some (.l xs) → σ[i]? ≠ some (some (.ref a))
noncomputable def Cn.at (C : Cn) (G : List Rs) (σ : L2.St) (H : Hp) : Cn := { C with H_0 := fun a => open Classical in if NotOwn G σ a then H a else none }
section
variable {C : Cn} {G G' : List Rs} {n n' : Int} {σ σ' : L2.St} {H H' : Hp} {r : Rs} {v : V} {D : DE} {E : Ends} {P : Pm}
theorem at_yes {a : Addr} (h : NotOwn G σ a) : (C.at G σ H).H_0 a = H a := if_pos h
theorem at_no {a : Addr} (h : ¬ NotOwn G σ a) : (C.at G σ H).H_0 a = none := if_neg h
theorem at_some {a : Addr} {o : HO} (h : (C.at G σ H).H_0 a = some o) : NotOwn G σ a ∧ H a = some o := by
  by_cases q : NotOwn G σ a
  · rw [at_yes q] at h
    exact ⟨q, h⟩
  · rw [at_no q] at h
    cases h
theorem own_none (g : Good C G n σ H) {a : Addr} (h : ¬ NotOwn G σ a) : C.H_0 a = none := by
  unfold NotOwn at h
  simp only [Classical.not_forall, Classical.not_not] at h
  obtain ⟨i, xs, h1, h2⟩ := h
  exact (g.own i xs a h1 h2).1
theorem Rep.base {C' : Cn} (e1 : C'.pm = C.pm) (e2 : C'.dr = C.dr) (e3 : C'.scr = C.scr) (h : Rep C H r v) : Rep C' H r v := by
  cases r with
  | d x => exact h
  | l xs => unfold Rep at h ⊢; rw [e2]; exact h
  | r xs => unfold Rep at h ⊢; rw [e2]; exact h
  | w => unfold Rep at h ⊢; rw [e2]; exact h
  | s => unfold Rep at h ⊢; rw [e3]; exact h
  | t kvs => unfold Rep at h ⊢; rw [e1]; exact h
  | x y => exact h
  | u => exact h
theorem Good.into (g : Good C G n σ H) : Good (C.at G σ H) G n σ H where
  frm := by
    refine ⟨fun a o h _ => (at_some h).2, ?_, g.frm.dr, g.frm.sd⟩
    rcases g.frm.sd with sd | lit
    · have yes : ∀ o, C.H_0 C.scr = some o → (C.at G σ H).H_0 C.scr = some o := fun o h => by
        have no : NotOwn G σ C.scr := Classical.not_not.mp fun z => by
          rw [own_none g z] at h
          cases h
        rw [at_yes no]
        exact g.frm.fr _ _ h sd
      rcases g.frm.sc with (h | ⟨o, h⟩) | h
      · exact .inl (.inl (yes _ h))
      · exact .inl (.inr ⟨o, yes _ h⟩)
      · exact .inr h
    · exact .inr lit
  len := g.len
  rep := fun i e h z => by
    obtain ⟨v, h1, h2⟩ := g.rep i e h z
    exact ⟨v, h1, h2.base rfl rfl rfl⟩
  own := fun i xs p h hs => ⟨at_no fun q => q i xs h hs, (g.own i xs p h hs).2⟩
theorem Frm.out (g : Good C G n σ H) (f : Frm (C.at G σ H) n' H') : Frm C n' H' where
  fr := fun a o h z => by
    have e := g.frm.fr a o h z
    have no : NotOwn G σ a := Classical.not_not.mp fun q => by
      rw [own_none g q] at h
      cases h
    exact f.fr a o (by rw [at_yes no]; exact e) z
  sc := g.frm.sc
  dr := f.dr
  sd := f.sd
theorem base_none (g : Good C G n σ H) {p : Addr} (h : (C.at G σ H).H_0 p = none) : C.H_0 p = none := by
  cases q : C.H_0 p with
  | none => rfl
  | some o =>
    have no : NotOwn G σ p := Classical.not_not.mp fun z => by
      rw [own_none g z] at q
      cases q
    rw [at_yes no] at h
    by_cases z : C.dr = some p
    · rw [g.frm.dr p z] at h
      cases h
    · rw [g.frm.fr p o q z] at h
      cases h
theorem Good.out (g : Good C G n σ H) (g' : Good (C.at G σ H) G' n' σ' H') : Good C G' n' σ' H' where
  frm := g'.frm.out g
  len := g'.len
  rep := fun i e h z => by
    obtain ⟨v, h1, h2⟩ := g'.rep i e h z
    exact ⟨v, h1, h2.base rfl rfl rfl⟩
  own := fun i xs p h hs => ⟨base_none g (g'.own i xs p h hs).1, (g'.own i xs p h hs).2⟩
theorem Imp.into (g : Good C G n σ H) (k : Imp C D E) : Imp (C.at G σ H) D E where
  nx := fun G1 n1 σ1 H1 d g1 => k.nx G1 n1 σ1 H1 d (g.out g1)
  rt := fun r n1 v H1 d f rp fr => k.rt r n1 v H1 d (f.out g) (rp.base rfl rfl rfl) fun xs e p ev => base_none g (fr xs e p ev)
  bk := fun G1 n1 σ1 H1 d g1 => k.bk G1 n1 σ1 H1 d (g.out g1)
  ct := fun G1 n1 σ1 H1 d g1 => k.ct G1 n1 σ1 H1 d (g.out g1)
end
/-! ### statements -/
section
variable {P : Pm} {G : List Rs} {n : Int} {te : TE} {ta : TA} {tt : TT} {t u : TS} {D : DE}
theorem sw_seq (h : SW P t G n { D with nx := fun G' n' => SW P u G' n' D }) : SW P (tSeq t u) G n D := fun C σ H E hP g k =>
  h C σ H _ hP g ⟨fun G1 n1 σ1 H1 d g1 => d C σ1 H1 E hP g1 k, k.rt, k.bk, k.ct⟩
theorem sw_next (h : D.nx G n) : SW P tNext G n D := fun C σ H E _ g k => k.nx G n σ H h g
theorem sw_cont (h : D.ct G n) : SW P tCont G n D := fun C σ H E _ g k => k.ct G n σ H h g
theorem sw_brk (h : D.bk G n) : SW P tBreak G n D := fun C σ H E _ g k => k.bk G n σ H h g
theorem sw_never (h : False) : SW P tNever G n D := h.elim
theorem fresh_base {C : Cn} {H H' : Hp} {σ : L2.St} {r : Rs} {v : V} (g : Good C G n σ H) (f : Fresh H r v) : ∀ xs, r = .l xs → ∀ p, v = .ref p → C.H_0 p = none := fun xs e p ev => by
  subst e
  have hp : H p = none := f p ev
  cases q : C.H_0 p with
  | none => rfl
  | some o =>
    by_cases z : C.dr = some p
    · rw [g.frm.dr p z] at hp
      cases hp
    · rw [g.frm.fr p o q z] at hp
      cases hp
theorem sw_set {i : Nat} (hi : i < G.length) (h : EW P te G n fun r n1 => (∀ xs, r ≠ .r xs) ∧ D.nx (G.set i r) n1) : SW P (tAsg te (gName i)) G n D := fun C σ H E hP g k =>
  h C σ H _ hP g fun r n1 v H1 q k1 d1 r1 f1 => k.nx _ n1 _ H1 q.2 (g.setN k1 d1 hi r1 f1 q.1)
/-- a slot that is ours is read only from now on -/
theorem Good.demote {C : Cn} {H : Hp} {σ : L2.St} {j : Nat} {xs : List PyData} (g : Good C G n σ H) (h : G[j]? = some (.l xs)) : Good C (G.set j (.r xs)) n σ H where
  frm := g.frm
  len := by rw [List.length_set]; exact g.len
  rep := fun i e hi z => by
    by_cases q : j = i
    · subst q
      rw [List.getElem?_set_self (List.getElem?_eq_some_iff.mp h).1] at hi
      cases hi
      obtain ⟨v, h1, h2⟩ := g.rep j _ h (fun z => nomatch z)
      exact ⟨v, h1, h2⟩
    · rw [List.getElem?_set_ne q] at hi
      exact g.rep i e hi z
  own := fun i ys p hi hs => by
    by_cases q : j = i
    · subst q
      rw [List.getElem?_set_self (List.getElem?_eq_some_iff.mp h).1] at hi
      cases hi
    · rw [List.getElem?_set_ne q] at hi
      obtain ⟨h1, h2⟩ := g.own i ys p hi hs
      refine ⟨h1, fun k e hk ek le => ?_⟩
      by_cases q2 : j = k
      · subst q2
        exact h2 j _ hk h rfl
      · rw [List.getElem?_set_ne q2] at ek
        exact h2 k e hk ek le
theorem sw_demote {j : Nat} {xs : List PyData} (h : G[j]? = some (.l xs)) (q : SW P t (G.set j (.r xs)) n D) : SW P t G n D := fun C σ H E hP g k => q C σ H E hP (g.demote h) k
/-- x = y, y a list that is only read -/
theorem sw_alias {i j : Nat} {xs : List PyData} (hi : i < G.length) (h : G[j]? = some (.r xs)) (q : D.nx (G.set i (.r xs)) n) : SW P (tAsg (tVar j) (gName i)) G n D := fun C σ H E hP g k => by
  obtain ⟨v, h1, h2⟩ := g.rep j _ h (fun z => nomatch z)
  refine ⟨v, h1, k.nx _ n _ H q (g.set hi h2 (fun _ e => nomatch e) fun ys e p ev m zs hm hz hs => ?_)⟩
  have hmj : m ≠ j := fun z => by
    subst z
    rw [h] at hz
    cases hz
  rw [ev] at h1
  exact (g.own m zs p hz hs).2 j _ (Ne.symm hmj) h rfl h1
theorem sw_ret (h : EW P te G n D.rt) : SW P (tRet te) G n D := fun C σ H E hP g k =>
  h C σ H _ hP g fun r n1 v H1 q k1 d1 r1 f1 => k.rt r n1 v H1 q (g.keep k1 d1).frm r1 (fresh_base (H' := H) g f1)
theorem sw_retN (h : D.rt (.d .none) n) : SW P tRetN G n D := fun C σ H E hP g k => k.rt _ n _ H h g.frm (show DT H _ _ from .non) fun _ e => nomatch e
theorem sw_if (h : TW P tt G n fun b n1 => Br b (SW P t G n1 D) (SW P u G n1 D)) : SW P (tIfS tt t u) G n D := fun C σ H E hP g k =>
  h C σ H _ hP g fun b n1 H1 q k1 d1 => by
    rcases br_or q with ⟨rfl, q⟩ | ⟨rfl, q⟩
    · exact q C σ H1 E hP (g.keep k1 d1) k
    · exact q C σ H1 E hP (g.keep k1 d1) k
theorem sw_expr (h : EW P te G n fun _ n1 => D.nx G n1) : SW P (tDrop te) G n D := fun C σ H E hP g k =>
  h C σ H _ hP g fun r n1 v H1 q k1 d1 r1 f1 => k.nx G n1 σ H1 q (g.keep k1 d1)
/-- (a, b) = a tuple -/
theorem sw_asg2 {i j : Nat} (hi : i < G.length) (hj : j < G.length) (h : EW P te G n fun r n1 => ∃ a b, r = .d (.tuple [a, b]) ∧ D.nx ((G.set i (.d a)).set j (.d b)) n1) : SW P (tAsg te (gTup P.K 2 (gCons (gName i) (gCons (gName j) gNil)))) G n D := fun C σ H E hP g k =>
  h C σ H _ hP g fun r n1 v H1 q k1 d1 r1 _ => by
    obtain ⟨a, b, rfl, q⟩ := q
    obtain ⟨p, vs, rfl, h2, ts⟩ := rep_t r1
    cases ts with
    | cons t1 ts =>
      cases ts with
      | cons t2 ts =>
        cases ts
        exact ⟨p, _, rfl, SqT.of h2, rfl, _, _, rfl, _, _, rfl, rfl, k.nx _ n1 _ H1 q (((g.keep k1 d1).setD hi t1).setD (by rw [List.length_set]; exact hj) t2)⟩
theorem sw_asg3 {i j m : Nat} (hi : i < G.length) (hj : j < G.length) (hm : m < G.length) (h : EW P te G n fun r n1 => ∃ a b c, r = .d (.tuple [a, b, c]) ∧ D.nx (((G.set i (.d a)).set j (.d b)).set m (.d c)) n1) :
    SW P (tAsg te (gTup P.K 3 (gCons (gName i) (gCons (gName j) (gCons (gName m) gNil))))) G n D := fun C σ H E hP g k =>
  h C σ H _ hP g fun r n1 v H1 q k1 d1 r1 _ => by
    obtain ⟨a, b, c, rfl, q⟩ := q
    obtain ⟨p, vs, rfl, h2, ts⟩ := rep_t r1
    cases ts with
    | cons t1 ts =>
      cases ts with
      | cons t2 ts =>
        cases ts with
        | cons t3 ts =>
          cases ts
          exact ⟨p, _, rfl, SqT.of h2, rfl, _, _, rfl, _, _, rfl, _, _, rfl, rfl,
            k.nx _ n1 _ H1 q ((((g.keep k1 d1).setD hi t1).setD (by rw [List.length_set]; exact hj) t2).setD (by rw [List.length_set, List.length_set]; exact hm) t3)⟩
theorem sw_par {i j : Nat} (hi : i < G.length) (hj : j < G.length) (h : EA P ta G n fun rs n1 => ∃ a b, rs = [.d a, .d b] ∧ D.nx ((G.set i (.d a)).set j (.d b)) n1) : SW P (tPar i j ta) G n D := fun C σ H E hP g k =>
  h C σ H _ hP g fun rs n1 vs H1 q k1 d1 r1 => by
    obtain ⟨a, b, rfl, q⟩ := q
    cases r1 with
    | cons t1 ts =>
      cases ts with
      | cons t2 ts =>
        cases ts
        exact ⟨_, _, rfl, k.nx _ n1 _ H1 q (((g.keep k1 d1).setD hi t1.1).setD (by rw [List.length_set]; exact hj) t2.1)⟩
theorem sw_aug {i : Nat} {f : Int → Int → Int} {a : Int} (hi : G[i]? = some (.d (.int a))) (h : EW P te G n fun r n1 => ∃ b, r = .d (.int b) ∧ D.nx (G.set i (.d (.int (f a b)))) n1) : SW P (tAug i te (ipI f)) G n D := fun C σ H E hP g k => by
  obtain ⟨v, h1, h2⟩ := g.rep i _ hi (fun z => nomatch z)
  cases h2
  refine ⟨_, h1, h C σ H _ hP g fun r n1 w H1 q k1 d1 r1 _ => ?_⟩
  obtain ⟨b, rfl, q⟩ := q
  cases r1
  exact ⟨a, b, rfl, rfl, k.nx _ n1 _ H1 q ((g.keep k1 d1).setD (List.getElem?_eq_some_iff.mp hi).1 (.int _))⟩
/-! lists that are ours change -/
theorem Good.change {C : Cn} {H : Hp} {σ : L2.St} {i : Nat} {xs ys : List PyData} {p : Addr} {vs ws : List V} (g : Good C G n σ H) (h : G[i]? = some (.l xs)) (hs : σ[i]? = some (some (.ref p))) (hp : H p = some (.lst vs)) (hd : C.dr ≠ some p) (ts : DTs H ws ys) :
    Good C (G.set i (.l ys)) n σ (upd H p (.lst ws)) := by
  have tx : Tx H (upd H p (.lst ws)) := fun a zs e => by
    rw [upd_ne fun z => by rw [z, hp] at e; cases e]
    exact e
  obtain ⟨b0, b1⟩ := g.own i xs p h hs
  have stay : ∀ a o, H a = some o → a ≠ p → upd H p (.lst ws) a = some o := fun a o e z => by
    rw [upd_ne z]
    exact e
  have frm : Frm C n (upd H p (.lst ws)) := ⟨fun a o e z => stay a o (g.frm.fr a o e z) fun q => (by rw [q, b0] at e; cases e), g.frm.sc, fun q z => (by
    rw [upd_ne fun y => hd (by rw [← y]; exact z)]
    exact g.frm.dr q z), g.frm.sd⟩
  refine ⟨frm, by rw [List.length_set]; exact g.len, fun j e hj z => ?_, fun j zs q hj hq => ?_⟩
  · by_cases q : i = j
    · subst q
      rw [List.getElem?_set_self (List.getElem?_eq_some_iff.mp h).1] at hj
      cases hj
      exact ⟨_, hs, p, ws, rfl, hd, upd_same, ts.mono tx⟩
    · rw [List.getElem?_set_ne q] at hj
      obtain ⟨v, h1, h2⟩ := g.rep j e hj z
      refine ⟨v, h1, ?_⟩
      cases e with
      | d x => exact DT.mono tx h2
      | l zs =>
        obtain ⟨q', us, rfl, e2, e3, e4⟩ := h2
        exact ⟨q', us, rfl, e2, stay _ _ e3 fun z => by rw [z] at h1; exact b1 j _ (Ne.symm q) hj rfl h1, e4.mono tx⟩
      | r zs =>
        obtain ⟨q', us, rfl, e2, e3, e4⟩ := h2
        exact ⟨q', us, rfl, e2, stay _ _ e3 fun z => by rw [z] at h1; exact b1 j _ (Ne.symm q) hj rfl h1, e4.mono tx⟩
      | w => exact h2
      | s => exact h2
      | x y => exact h2
      | t kvs =>
        obtain ⟨q', rfl, qs, e3, e4⟩ := h2
        exact ⟨q', rfl, qs, stay _ _ e3 (fun z => by rw [z, hp] at e3; cases e3), Paired.mapP e4 fun _ _ y => y.mono tx⟩
      | u => exact h2
  · by_cases y : i = j
    · subst y
      rw [hs] at hq
      cases hq
      refine ⟨b0, fun k e hk ek le => ?_⟩
      rw [List.getElem?_set_ne (Ne.symm hk)] at ek
      exact b1 k e hk ek le
    · rw [List.getElem?_set_ne y] at hj
      obtain ⟨c0, c1⟩ := g.own j zs q hj hq
      refine ⟨c0, fun k e hk ek le => ?_⟩
      by_cases y2 : i = k
      · subst y2
        exact c1 i _ hk h rfl
      · rw [List.getElem?_set_ne y2] at ek
        exact c1 k e hk ek le
end
end Dl
set_option Elab.async false
set_option linter.all false
set_option maxRecDepth 100000
set_option autoImplicit false
/-! Dl6: lists that change, loops, comprehensions, calls, defs. -/
namespace Dl
open PySem PySem.Spec PyProof.Rows L2
section
variable {P : Pm} {G : List Rs} {n : Int} {te ti : TE} {ta : TA} {tt : TT} {t u tb : TS} {D : DE} {xs ys : List PyData} {i j k : Nat}
/-- what stands in a slot that is ours -/
theorem Good.ours {C : Cn} {H : Hp} {σ : L2.St} (g : Good C G n σ H) (h : G[i]? = some (.l xs)) : ∃ p vs, σ[i]? = some (some (.ref p)) ∧ C.dr ≠ some p ∧ H p = some (.lst vs) ∧ DTs H vs xs := by
  obtain ⟨v, h1, p, vs, rfl, h2, h3, h4⟩ := g.rep i _ h (fun z => nomatch z)
  exact ⟨p, vs, h1, h2, h3, h4⟩
theorem tyL {K : PySem.W.Frag} {H : Hp} {p : Addr} {vs : List V} (h : H p = some (.lst vs)) : tyV K "list" (.ref p) H := .inl ⟨rfl, vs, SqL.of h⟩
theorem sw_append (h : G[i]? = some (.l xs)) (hz : xs.length < 100000) (q : EW P te G n fun r n1 => ∃ d, r = .d d ∧ D.nx (G.set i (.l (xs ++ [d]))) n1) : SW P (tDrop (tBM P.K "list" rAppend (tVar i) (tCons te tNil))) G n D := fun C σ H E hP g k => by
  obtain ⟨p, vs, h1, h2, h3, h4⟩ := g.ours h
  refine ⟨.ref p, h1, tyL h3, q C σ H _ hP g fun r n1 v H1 q1 k1 d1 r1 f1 => ?_⟩
  obtain ⟨d, rfl, q1⟩ := q1
  have h5 := k1 p _ h3 h2
  have ts := h4.mono (k1.tx g.frm.dr)
  refine ⟨p, vs, v, rfl, rfl, h5, by rw [h4.length]; exact Nat.lt_of_lt_of_le hz (by decide), ?_⟩
  exact k.nx _ n1 _ _ q1 ((g.keep k1 d1).change h h1 h5 h2 (ts.append (.cons r1 .nil)))
theorem sw_extend (h : G[i]? = some (.l xs)) (q : EW P te G n fun r n1 => ∃ ys, r = .l ys ∧ xs.length + ys.length ≤ 100000 ∧ D.nx (G.set i (.l (xs ++ ys))) n1) : SW P (tDrop (tBM P.K "list" rExtend (tVar i) (tCons te tNil))) G n D := fun C σ H E hP g k => by
  obtain ⟨p, vs, h1, h2, h3, h4⟩ := g.ours h
  refine ⟨.ref p, h1, tyL h3, q C σ H _ hP g fun r n1 v H1 q1 k1 d1 r1 f1 => ?_⟩
  obtain ⟨ys, rfl, hz, q1⟩ := q1
  obtain ⟨p2, ws, rfl, e1, e2, e3⟩ := r1
  have h5 := k1 p _ h3 h2
  have ts := h4.mono (k1.tx g.frm.dr)
  refine ⟨p, p2, vs, ws, rfl, rfl, h5, e2, by rw [h4.length, e3.length]; exact Nat.le_trans hz (by decide), ?_⟩
  exact k.nx _ n1 _ _ q1 ((g.keep k1 d1).change h h1 h5 h2 (ts.append e3))
theorem sw_reverse (h : G[i]? = some (.l xs)) (q : D.nx (G.set i (.l xs.reverse)) n) : SW P (tDrop (tBM0 P.K "list" rReverse (tVar i))) G n D := fun C σ H E hP g k => by
  obtain ⟨p, vs, h1, h2, h3, h4⟩ := g.ours h
  exact ⟨.ref p, h1, tyL h3, p, vs, rfl, rfl, h3, k.nx _ n _ _ q (g.change h h1 h3 h2 h4.reverse)⟩
theorem sw_store (h : G[i]? = some (.l xs)) (q : EW P te G n fun r n1 => ∃ d, r = .d d ∧ EW P ti G n1 fun r2 n2 => ∃ m j, r2 = .d (.int m) ∧ ixN xs.length m = some j ∧ D.nx (G.set i (.l (xs.set j d))) n2) : SW P (tAsg te (gSub (tVar i) ti rSetL)) G n D := fun C σ H E hP g k =>
  q C σ H _ hP g fun r n1 v H1 q1 k1 d1 r1 _ => by
    obtain ⟨d, rfl, q1⟩ := q1
    obtain ⟨p, vs, h1, h2, h3, h4⟩ := g.ours h
    refine ⟨.ref p, h1, q1 C σ H1 _ hP (g.keep k1 d1) fun r2 n2 v2 H2 q2 k2 d2 r2 _ => ?_⟩
    obtain ⟨m, j, rfl, e, q2⟩ := q2
    cases r2
    have k3 := k1.trans k2
    have h5 := k3 p _ h3 h2
    have ts := h4.mono (k3.tx g.frm.dr)
    refine ⟨p, vs, m, j, rfl, rfl, h5, by rw [h4.length]; exact e, ?_⟩
    exact k.nx _ n2 _ _ q2 (((g.keep k1 d1).keep k2 d2).change h h1 h5 h2 (ts.set (DT.mono (k2.tx d1) r1) j))
/-- a, b = xs.pop() -/
theorem sw_pop2 {a b : PyData} (hk : k < G.length) (hj : j < G.length) (h : G[i]? = some (.l (xs ++ [.tuple [a, b]]))) (q : D.nx (((G.set i (.l xs)).set j (.d a)).set k (.d b)) n) :
    SW P (tAsg (tBM0 P.K "list" rPop (tVar i)) (gTup P.K 2 (gCons (gName j) (gCons (gName k) gNil)))) G n D := fun C σ H E hP g kk => by
  obtain ⟨p, vs, h1, h2, h3, h4⟩ := g.ours h
  have hl : vs.length = xs.length + 1 := by
    rw [h4.length, List.length_append]
    rfl
  have e0 : (xs ++ [PyData.tuple [a, b]])[xs.length]? = some (.tuple [a, b]) := by
    rw [List.getElem?_append_right (Nat.le_refl _), Nat.sub_self]
    rfl
  obtain ⟨v, e1, e2⟩ := h4.get e0
  obtain ⟨T, ws, rfl, e3, e4⟩ := rep_t e2
  have ts : DTs H vs.dropLast xs := by
    have := h4.dropLast
    rwa [List.dropLast_concat] at this
  have g1 := g.change h h1 h3 h2 ts
  refine ⟨.ref p, h1, tyL h3, p, vs, .ref T, rfl, rfl, h3, by rw [hl, Nat.add_sub_cancel]; exact e1, ?_⟩
  have hT : upd H p (.lst vs.dropLast) T = some (.tup ws) := by
    rw [upd_ne fun z => by rw [z, h3] at e3; cases e3]
    exact e3
  have tx : Tx H (upd H p (.lst vs.dropLast)) := fun a zs e => by
    rw [upd_ne fun z => by rw [z, h3] at e; cases e]
    exact e
  cases e4 with
  | cons t1 t2 =>
    cases t2 with
    | cons t2 t3 =>
      cases t3
      exact ⟨T, _, rfl, SqT.of hT, rfl, _, _, rfl, _, _, rfl, rfl, kk.nx _ n _ _ q ((g1.setD (by rw [List.length_set]; exact hj) (t1.mono tx)).setD (by rw [List.length_set, List.length_set]; exact hk) (t2.mono tx))⟩
/-- draw[1] = e -/
theorem sw_draw (h : G[i]? = some .w) (q : EW P te G n fun r n1 => ∃ m, r = .d (.int m) ∧ D.nx G m) : SW P (tAsg te (gSub (tVar i) (tC (.int 1)) rSetL)) G n D := fun C σ H E hP g k =>
  q C σ H _ hP g fun r n1 v H1 q1 k1 d1 r1 _ => by
    obtain ⟨m, rfl, q1⟩ := q1
    cases r1
    obtain ⟨v, h1, p, rfl, h2⟩ := g.rep i .w h (fun z => nomatch z)
    have g1 := g.keep k1 d1
    have h3 := d1 p h2
    refine ⟨.ref p, h1, p, _, 1, 1, rfl, rfl, h3, rfl, k.nx _ m _ _ q1 ?_⟩
    have stay : ∀ a o, H1 a = some o → C.dr ≠ some a → upd H1 p (.lst [.ref C.scr, .int m]) a = some o := fun a o e z => by
      rw [upd_ne fun y => z (by rw [y]; exact h2)]
      exact e
    refine ⟨⟨fun a o e z => stay a o (g1.frm.fr a o e z) z, g1.frm.sc, fun a z => ?_, g1.frm.sd⟩, g1.len, fun j e hj z => ?_, g1.own⟩
    · have e : a = p := Option.some.inj (z.symm.trans h2)
      rw [e]
      exact upd_same
    · obtain ⟨w, e1, e2⟩ := g1.rep j e hj z
      exact ⟨w, e1, e2.keep stay d1⟩
/-! ### what is walked -/
section
variable (P)
/-- the items of an iterator while all stands but what is ours -/
def Yl (C : Cn) (G : List Rs) (σ : L2.St) (J : It) (ds : List PyData) (H1 : Hp) : Prop := ∀ (H' : Hp) (n' : Int), (∀ a o, H1 a = some o → NotOwn G σ a → C.dr ≠ some a → H' a = some o) → Dr C n' H' → ∀ m,
  (∀ d, ds[m]? = some d → J.go m H' ∧ ∀ x H'', J.yld m H' x H'' → Keep C H' H'' ∧ Dr C n' H'' ∧ DT H'' x d) ∧ (ds.length ≤ m → J.stop m H')
def WI (wi : TI) (G : List Rs) (n : Int) (Q : List PyData → Int → Prop) : Prop := ∀ (C : Cn) (σ : L2.St) (H : Hp) (R : It → Hp → Prop), C.pm = P → Good C G n σ H →
  (∀ ds n' J H', Q ds n' → Keep C H H' → Dr C n' H' → Yl C G σ J ds H' → R J H') → wi σ H R
end
theorem no_own_new {C : Cn} {H H' : Hp} {σ : L2.St} {a : Addr} (g : Good C G n σ H) (h : H a = none) : NotOwn G σ a := fun m ys hm hs => g.there hm rfl hs h
theorem no_own_tup {C : Cn} {H : Hp} {σ : L2.St} {a : Addr} {vs : List V} (g : Good C G n σ H) (h : H a = some (.tup vs)) : NotOwn G σ a := fun m ys hm hs => by
  obtain ⟨p, ws, h1, _, h3, _⟩ := g.ours hm
  rw [hs] at h1
  cases h1
  rw [h] at h3
  cases h3
theorem dr_tup {C : Cn} {H : Hp} {a : Addr} {vs : List V} (d : Dr C n H) (h : H a = some (.tup vs)) : C.dr ≠ some a := fun z => by
  rw [d a z] at h
  cases h
/-- all tuples stay -/
theorem tups_stay {C : Cn} {H H' : Hp} {σ : L2.St} (g : Good C G n σ H) (st : ∀ a o, H a = some o → NotOwn G σ a → C.dr ≠ some a → H' a = some o) : Tx H H' := fun a vs h => st a _ h (no_own_tup g h) (dr_tup g.frm.dr h)
variable {Q : List PyData → Int → Prop}
theorem wi_tup (h : EW P te G n fun r n1 => ∃ ds, r = .d (.tuple ds) ∧ Q ds n1) : WI P (iTup P.K te) G n Q := fun C σ H R hP g k =>
  h C σ H _ hP g fun r n1 v H1 q k1 d1 r1 _ => by
    obtain ⟨ds, rfl, q⟩ := q
    obtain ⟨a, vs, rfl, h2, ts⟩ := rep_t r1
    refine ⟨a, rfl, ⟨vs, SqT.of h2⟩, k ds n1 _ H1 q k1 d1 fun H' n' st d' m => ?_⟩
    have g1 := g.keep k1 d1
    have h3 := st a _ h2 (no_own_tup g1 h2) (dr_tup d1 h2)
    have tx := tups_stay g1 st
    refine ⟨fun d hd => ?_, fun hm => ⟨vs, SqT.of h3, by rw [ts.length]; exact hm⟩⟩
    obtain ⟨x, e1, e2⟩ := ts.get hd
    refine ⟨⟨vs, x, SqT.of h3, e1⟩, fun y H'' hy => ?_⟩
    obtain ⟨rfl, f⟩ := hy
    have := f vs (SqT.of h3)
    rw [e1] at this
    cases this
    exact ⟨Keep.refl C _, d', e2.mono tx⟩
/-- a list that is only read, by its slot | a new list -/
theorem yl_list {C : Cn} {H : Hp} {σ : L2.St} {p : Addr} {vs : List V} {ds : List PyData} (g : Good C G n σ H) (hp : H p = some (.lst vs)) (ts : DTs H vs ds) (no : NotOwn G σ p) (hd : C.dr ≠ some p) : Yl C G σ (Itl C.pm.K p) ds H := fun H' n' st d' m => by
  have h3 := st p _ hp no hd
  have tx := tups_stay g st
  refine ⟨fun d hd => ?_, fun hm => ⟨vs, SqL.of h3, by rw [ts.length]; exact hm⟩⟩
  obtain ⟨x, e1, e2⟩ := ts.get hd
  refine ⟨⟨vs, x, SqL.of h3, e1⟩, fun y H'' hy => ?_⟩
  obtain ⟨rfl, f⟩ := hy
  have := f vs (SqL.of h3)
  rw [e1] at this
  cases this
  exact ⟨Keep.refl C _, d', e2.mono tx⟩
theorem no_own_r {C : Cn} {H : Hp} {σ : L2.St} {ds : List PyData} (g : Good C G n σ H) (h : G[k]? = some (.r ds)) : ∃ p vs, σ[k]? = some (some (.ref p)) ∧ C.dr ≠ some p ∧ H p = some (.lst vs) ∧ DTs H vs ds ∧ NotOwn G σ p := by
  obtain ⟨v, h1, p, vs, rfl, h2, h3, h4⟩ := g.rep k _ h (fun z => nomatch z)
  refine ⟨p, vs, h1, h2, h3, h4, fun m ys hm hs => ?_⟩
  have hne : k ≠ m := fun z => by
    subst z
    rw [h] at hm
    cases hm
  exact (g.own m ys p hm hs).2 k _ hne h rfl h1
theorem wi_var {ds : List PyData} (h : G[k]? = some (.r ds)) (q : Q ds n) : WI P (iList P.K (tVar k)) G n Q := fun C σ H R hP g kk => by
  obtain ⟨p, vs, h1, h2, h3, h4, no⟩ := no_own_r g h
  subst hP
  exact ⟨.ref p, h1, p, rfl, ⟨vs, SqL.of h3⟩, kk ds n _ H q (Keep.refl C H) g.frm.dr (yl_list g h3 h4 no h2)⟩
theorem wi_new (h : EW P te G n fun r n1 => ∃ ds, r = .l ds ∧ Q ds n1) : WI P (iList P.K te) G n Q := fun C σ H R hP g k =>
  h C σ H _ hP g fun r n1 v H1 q k1 d1 r1 f1 => by
    obtain ⟨ds, rfl, q⟩ := q
    obtain ⟨p, vs, rfl, h2, h3, h4⟩ := r1
    subst hP
    exact ⟨p, rfl, ⟨vs, SqL.of h3⟩, k ds n1 _ H1 q k1 d1 (yl_list (g.keep k1 d1) h3 h4 (no_own_new (H' := H) g (f1 p rfl)) h2)⟩
/-- 0, 1, .. | lo, lo + c, .. -/
def rangeD (lo c : Int) (m : Nat) : List PyData := (List.range m).map fun (j : Nat) => .int (lo + (j : Int) * c)
theorem rangeD_get {lo c : Int} {m j : Nat} {d : PyData} (h : (rangeD lo c m)[j]? = some d) : j < m ∧ d = .int (lo + (j : Int) * c) := by
  unfold rangeD at h
  rw [List.getElem?_map] at h
  obtain ⟨z, h1, h2⟩ := Option.map_eq_some_iff.mp h
  obtain ⟨h3, h4⟩ := List.getElem?_eq_some_iff.mp h1
  rw [List.length_range] at h3
  rw [List.getElem_range] at h4
  subst h4
  exact ⟨h3, h2.symm⟩
theorem rangeD_len {lo c : Int} {m : Nat} : (rangeD lo c m).length = m := by
  unfold rangeD
  rw [List.length_map, List.length_range]
theorem wi_range (h : EA P ta G n fun rs n1 => ∃ z, rs = [.d (.int z)] ∧ 0 ≤ z ∧ z ≤ 1000000 ∧ Q (rangeD 0 1 z.toNat) n1) : WI P (iRng1 ta) G n Q := fun C σ H R hP g k =>
  h C σ H _ hP g fun rs n1 vs H1 q k1 d1 r1 => by
    obtain ⟨z, rfl, h0, h2, q⟩ := q
    cases r1 with
    | cons a b =>
      cases b
      cases a.1
      refine ⟨z, rfl, by omega, by omega, k _ n1 _ H1 q k1 d1 fun H' n' st d' m => ⟨fun d hd => ?_, fun hm => by rw [rangeD_len] at hm; exact hm⟩⟩
      obtain ⟨e1, rfl⟩ := rangeD_get hd
      refine ⟨e1, fun x H'' hx => ?_⟩
      obtain ⟨rfl, rfl⟩ := hx
      refine ⟨Keep.refl C _, d', ?_⟩
      rw [Int.mul_one]
      exact .int _
theorem wi_range3 (h : EA P ta G n fun rs n1 => ∃ a b c m, rs = [.d (.int a), .d (.int b), .d (.int c)] ∧ RgC a b c m ∧ Q (rangeD a c m) n1) : WI P (iRng3 ta) G n Q := fun C σ H R hP g k =>
  h C σ H _ hP g fun rs n1 vs H1 q k1 d1 r1 => by
    obtain ⟨a, b, c, m, rfl, hr, q⟩ := q
    cases r1 with
    | cons t1 r1 =>
      cases r1 with
      | cons t2 r1 =>
        cases r1 with
        | cons t3 r1 =>
          cases r1
          cases t1.1
          cases t2.1
          cases t3.1
          refine ⟨a, b, c, m, rfl, hr, k _ n1 _ H1 q k1 d1 fun H' n' st d' j => ⟨fun d hd => ?_, fun hm => by rw [rangeD_len] at hm; exact hm⟩⟩
          obtain ⟨e1, rfl⟩ := rangeD_get hd
          refine ⟨e1, fun x H'' hx => ?_⟩
          obtain ⟨rfl, rfl⟩ := hx
          exact ⟨Keep.refl C _, d', .int _⟩
/-- numbered items -/
def enumD : Nat → List PyData → List PyData
  | _, [] => []
  | m, d :: ds => .tuple [.int (m : Nat), d] :: enumD (m + 1) ds
theorem enumD_get : ∀ {ds : List PyData} {m j : Nat} {d : PyData}, (enumD m ds)[j]? = some d → ∃ x, ds[j]? = some x ∧ d = .tuple [.int ((m + j : Nat) : Int), x]
  | [], _, _, _, h => by simp [enumD] at h
  | x :: ds, m, 0, d, h => by
    refine ⟨x, rfl, ?_⟩
    exact (Option.some.inj (show some (PyData.tuple [.int ((m : Nat) : Int), x]) = some d from h)).symm
  | x :: ds, m, j + 1, d, h => by
    obtain ⟨y, h1, h2⟩ := enumD_get (ds := ds) (m := m + 1) (j := j) (d := d) h
    refine ⟨y, h1, ?_⟩
    rw [h2, show m + 1 + j = m + (j + 1) by omega]
theorem enumD_len : ∀ {ds : List PyData} {m : Nat}, (enumD m ds).length = ds.length
  | [], _ => rfl
  | _ :: ds, m => by
    show (enumD (m + 1) ds).length + 1 = ds.length + 1
    rw [enumD_len]
theorem wi_enum {ds : List PyData} (h : G[k]? = some (.r ds)) (q : Q (enumD 0 ds) n) : WI P (iEnum P.K (tCons (tVar k) tNil)) G n Q := fun C σ H R hP g kk => by
  obtain ⟨p, vs, h1, h2, h3, h4, no⟩ := no_own_r g h
  subst hP
  refine ⟨.ref p, h1, p, vs, rfl, SqL.of h3, kk _ n _ H q (Keep.refl C H) g.frm.dr fun H' n' st d' m => ?_⟩
  have h5 := st p _ h3 no h2
  have tx := tups_stay g st
  refine ⟨fun d hd => ?_, fun hm => ⟨vs, SqL.of h5, by rw [h4.length]; rw [enumD_len] at hm; exact hm⟩⟩
  obtain ⟨z, e0, rfl⟩ := enumD_get hd
  obtain ⟨x, e1, e2⟩ := h4.get e0
  refine ⟨⟨vs, x, SqL.of h5, e1⟩, fun y H'' hy => ?_⟩
  obtain ⟨T, x', rfl, hT, rfl, f⟩ := hy
  have := f vs (SqL.of h5)
  rw [e1] at this
  cases this
  have kn : Keep C H' (upd H' T (.tup [.int (m : Nat), x])) := Keep.new hT
  refine ⟨kn, d'.new hT, .tup upd_same (.cons ?_ (.cons ((e2.mono tx).mono (kn.tx d')) .nil))⟩
  rw [Nat.zero_add]
  exact .int _
/-- a tuple from behind -/
theorem wi_rev (h : EW P te G n fun r n1 => ∃ ds, r = .d (.tuple ds) ∧ Q ds.reverse n1) : WI P (RT.iRevA P.K te) G n Q := fun C σ H R hP g k =>
  h C σ H _ hP g fun r n1 v H1 q k1 d1 r1 _ => by
    obtain ⟨ds, rfl, q⟩ := q
    obtain ⟨a, vs, rfl, h2, ts⟩ := rep_t r1
    refine ⟨a, vs, rfl, .inr ⟨SqT.of h2, k _ n1 _ H1 q k1 d1 fun H' n' st d' m => ?_⟩⟩
    have g1 := g.keep k1 d1
    have h3 := st a _ h2 (no_own_tup g1 h2) (dr_tup d1 h2)
    have tx := tups_stay g1 st
    refine ⟨fun d hd => ?_, fun hm => by rw [List.length_reverse, ← ts.length] at hm; exact hm⟩
    obtain ⟨x, e1, e2⟩ := ts.reverse.get hd
    have hm : m < vs.length := by
      have := (List.getElem?_eq_some_iff.mp e1).1
      rwa [List.length_reverse] at this
    rw [List.getElem?_reverse hm] at e1
    refine ⟨⟨hm, vs, x, SqT.of h3, e1⟩, fun y H'' hy => ?_⟩
    obtain ⟨rfl, f⟩ := hy
    have := f vs (SqT.of h3)
    rw [this] at e1
    cases e1
    exact ⟨Keep.refl C _, d', e2.mono tx⟩
/-! ### loops -/
inductive Pat where
  | nm (i : Nat) | p2 (i j : Nat)
def Pat.put : Pat → PyData → List Rs → Option (List Rs)
  | .nm i, d, G => some (G.set i (.d d))
  | .p2 i j, .tuple [a, b], G => some ((G.set i (.d a)).set j (.d b))
  | _, _, _ => none
def Pat.g (K : PySem.W.Frag) : Pat → TG
  | .nm i => gName i
  | .p2 i j => gTup K 2 (gCons (gName i) (gCons (gName j) gNil))
def Pat.lt (m : Nat) : Pat → Prop
  | .nm i => i < m
  | .p2 i j => i < m ∧ j < m
/-- the slots that a target stores -/
def Pat.ats : Pat → List Nat
  | .nm i => [i]
  | .p2 i j => [i, j]
theorem Pat.run {C : Cn} {H : Hp} {σ : L2.St} {p : Pat} {d : PyData} {G1 : List Rs} {x : V} {R : L2.St → Hp → Prop} (g : Good C G n σ H) (hl : p.lt G.length) (e : p.put d G = some G1) (r : DT H x d)
    (k : ∀ σ1, Good C G1 n σ1 H → (∀ vs : List Nat, (∀ i ∈ p.ats, i ∈ vs) → wipe σ1 vs = wipe σ vs) → R σ1 H) : p.g C.pm.K x σ H R := by
  have ws : ∀ (σ : L2.St) (i : Nat) (x : Option V) (vs : List Nat), i ∈ vs → wipe (σ.set i x) vs = wipe σ vs := fun σ i x vs => by
    induction vs with
    | nil => exact fun h => by cases h
    | cons v vs ih =>
      intro h
      unfold wipe
      by_cases hv : i ∈ vs
      · rw [ih hv]
      · have e : i = v := (List.mem_cons.mp h).resolve_right hv
        subst e
        have go : ∀ (us : List Nat), i ∉ us → wipe (σ.set i x) us = (wipe σ us).set i x := fun us => by
          induction us with
          | nil => exact fun _ => rfl
          | cons u us ihu =>
            intro hu
            have h1 : i ≠ u := fun z => hu (by rw [z]; exact List.mem_cons_self)
            unfold wipe
            rw [ihu fun z => hu (List.mem_cons_of_mem _ z), List.set_comm _ _ h1]
        rw [go vs hv, List.set_set]
  cases p with
  | nm i =>
    cases e
    exact k _ (g.setD hl r) fun vs h => ws σ i _ vs (h i List.mem_cons_self)
  | p2 i j =>
    match d, e with
    | .tuple [a, b], e =>
      cases e
      obtain ⟨q, us, rfl, h2, ts⟩ := rep_t r
      cases ts with
      | cons t1 ts =>
        cases ts with
        | cons t2 ts =>
          cases ts
          refine ⟨q, _, rfl, SqT.of h2, rfl, _, _, rfl, _, _, rfl, rfl, k _ ((g.setD hl.1 t1).setD (by rw [List.length_set]; exact hl.2) t2) fun vs h => ?_⟩
          rw [ws _ j _ vs (h j (List.mem_cons_of_mem _ List.mem_cons_self)), ws _ i _ vs (h i List.mem_cons_self)]
/-- a loop's turns -/
def LoopW (P : Pm) (p : Pat) (tb : TS) (D : DE) : List PyData → List Rs → Int → Prop
  | [], G, n => D.nx G n
  | d :: ds, G, n => p.lt G.length ∧ ∃ G1, p.put d G = some G1 ∧ SW P tb G1 n { D with nx := LoopW P p tb D ds, ct := LoopW P p tb D ds, bk := D.nx }
theorem sw_for {p : Pat} {wi : TI} (h : WI P wi G n fun ds n1 => LoopW P p tb D ds G n1) : SW P (tFor wi (p.g P.K) tb) G n D := fun C σ H E hP g k =>
  h C σ H _ hP g fun ds n1 J H1 q k1 d1 yl => by
    have g1 := g.keep k1 d1
    subst hP
    refine ⟨fun i m σ' H' => m = ds.length - i ∧ ∃ G' n', Good (C.at G σ H1) G' n' σ' H' ∧ LoopW C.pm p tb D (ds.drop i) G' n', ⟨ds.length, by omega, G, n1, g1.into, q⟩, ?_⟩
    rintro i m σ' H' ⟨rfl, G', n', g', q'⟩
    have st : ∀ a o, H1 a = some o → NotOwn G σ a → C.dr ≠ some a → H' a = some o := fun a o e no z => g'.frm.fr a o (by rw [at_yes no]; exact e) z
    have y := yl H' n' st g'.frm.dr i
    by_cases hi : i < ds.length
    · have e := List.getElem?_eq_getElem hi
      obtain ⟨go, yd⟩ := y.1 _ e
      rw [List.drop_eq_getElem_cons hi] at q'
      obtain ⟨hl, G1, e1, q'⟩ := q'
      refine .inr ⟨go, fun σ3 H3 => ∃ G3 n3, Good (C.at G σ H1) G3 n3 σ3 H3 ∧ LoopW C.pm p tb D (ds.drop (i + 1)) G3 n3, fun σ3 H3 ⟨G3, n3, g3, q3⟩ => ⟨ds.length - (i + 1), by omega, rfl, G3, n3, g3, q3⟩, fun x H2 hx => ?_⟩
      obtain ⟨k2, d2, r2⟩ := yd x H2 hx
      have k2' : Keep (C.at G σ H1) H' H2 := k2
      have g2 := g'.keep k2' (n' := n') d2
      refine Pat.run (C := C.at G σ H1) g2 hl e1 r2 fun σ4 g4 _ => ?_
      exact q' (C.at G σ H1) σ4 H2 _ rfl g4 ⟨fun G5 n5 σ5 H5 dd g5 => ⟨G5, n5, g5, dd⟩, fun r5 n5 v5 H5 dd f5 rp fr => (k.into g1).rt r5 n5 v5 H5 dd f5 rp fr, fun G5 n5 σ5 H5 dd g5 => (k.into g1).nx G5 n5 σ5 H5 dd g5, fun G5 n5 σ5 H5 dd g5 => ⟨G5, n5, g5, dd⟩⟩
    · refine .inl ⟨y.2 (by omega), ?_⟩
      rw [List.drop_eq_nil_of_le (by omega)] at q'
      exact (k.into g1).nx G' n' σ' H' q' g'
/-- while: as many turns as one says -/
def WhileW (P : Pm) (tc : TT) (tb : TS) (D : DE) : Nat → List Rs → Int → Prop
  | 0, _, _ => False
  | m + 1, G, n => TW P tc G n fun b n1 => Br b (SW P tb G n1 { D with nx := WhileW P tc tb D m, ct := WhileW P tc tb D m, bk := D.nx }) (D.nx G n1)
theorem sw_while {tc : TT} (m : Nat) (h : WhileW P tc tb D m G n) : SW P (tWhile tc tb) G n D := fun C σ H E hP g k => by
  subst hP
  refine ⟨fun m σ' H' => ∃ G' n', Good C G' n' σ' H' ∧ WhileW C.pm tc tb D m G' n', ⟨m, G, n, g, h⟩, ?_⟩
  rintro m σ' H' ⟨G', n', g', q'⟩
  cases m with
  | zero => exact q'.elim
  | succ m =>
    refine q' C σ' H' _ rfl g' fun b n1 H1 q1 k1 d1 => ?_
    rcases br_or q1 with ⟨rfl, q⟩ | ⟨rfl, q⟩
    · rw [if_pos rfl]
      refine ⟨fun σ2 H2 => ∃ G2 n2, Good C G2 n2 σ2 H2 ∧ WhileW C.pm tc tb D m G2 n2, fun σ2 H2 ⟨G2, n2, g2, q2⟩ => ⟨m, by omega, G2, n2, g2, q2⟩, ?_⟩
      exact q C σ' H1 _ rfl (g'.keep k1 d1) ⟨fun G5 n5 σ5 H5 dd g5 => ⟨G5, n5, g5, dd⟩, k.rt, k.nx, fun G5 n5 σ5 H5 dd g5 => ⟨G5, n5, g5, dd⟩⟩
    · rw [if_neg Bool.false_ne_true]
      exact k.nx G' n1 σ' H1 q (g'.keep k1 d1)
/-! ### comprehensions -/
def wipeG (G : List Rs) : List Nat → List Rs
  | [] => G
  | v :: vs => (wipeG G vs).set v .u
theorem Good.unset {C : Cn} {H : Hp} {σ : L2.St} {x : Option V} (g : Good C G n σ H) (i : Nat) : Good C (G.set i .u) n (σ.set i x) H where
  frm := g.frm
  len := by rw [List.length_set, List.length_set, g.len]
  rep := fun j e hj z => by
    by_cases q : i = j
    · subst q
      by_cases hi : i < G.length
      · rw [List.getElem?_set_self hi] at hj
        exact absurd (Option.some.inj hj).symm z
      · rw [List.set_eq_of_length_le (by omega)] at hj
        exact absurd (List.getElem?_eq_some_iff.mp hj).1 hi
    · rw [List.getElem?_set_ne q] at hj ⊢
      exact g.rep j e hj z
  own := fun j ys p hj hs => by
    by_cases q : i = j
    · subst q
      by_cases hi : i < G.length
      · rw [List.getElem?_set_self hi] at hj
        cases hj
      · rw [List.set_eq_of_length_le (by omega)] at hj
        exact absurd (List.getElem?_eq_some_iff.mp hj).1 hi
    · rw [List.getElem?_set_ne q] at hj hs
      obtain ⟨h1, h2⟩ := g.own j ys p hj hs
      refine ⟨h1, fun k e hk ek le => ?_⟩
      by_cases q2 : i = k
      · subst q2
        by_cases hi : i < G.length
        · rw [List.getElem?_set_self hi] at ek
          cases ek
          cases le
        · rw [List.set_eq_of_length_le (by omega)] at ek
          exact absurd (List.getElem?_eq_some_iff.mp ek).1 hi
      · rw [List.getElem?_set_ne q2] at ek ⊢
        exact h2 k e hk ek le
theorem Good.wipe {C : Cn} {H : Hp} {σ : L2.St} (g : Good C G n σ H) : ∀ vs : List Nat, Good C (wipeG G vs) n (L2.wipe σ vs) H
  | [] => g
  | v :: vs => (Good.wipe g vs).unset v
/-- a comprehension's turns -/
def CompW (P : Pm) (p : Pat) (tt : TT) (te : TE) (G : List Rs) (vs : List Nat) (Q : List PyData → Int → Prop) : List PyData → List PyData → Int → Prop
  | [], acc, n => Q acc n
  | d :: ds, acc, n => p.lt (wipeG G vs).length ∧ ∃ G1, p.put d (wipeG G vs) = some G1 ∧ TW P tt G1 n fun b n1 => Br b (EW P te G1 n1 fun r n2 => ∃ x, r = .d x ∧ CompW P p tt te G vs Q ds (acc ++ [x]) n2) (CompW P p tt te G vs Q ds acc n1)
theorem wipe_idem (σ : L2.St) : ∀ vs : List Nat, wipe (wipe σ vs) vs = wipe σ vs := fun vs => by
  apply List.ext_getElem?
  intro j
  have at_ : ∀ (us : List Nat) (τ : L2.St), (wipe τ us)[j]? = if j ∈ us then (τ[j]?).map (fun _ => none) else τ[j]? := fun us => by
    induction us with
    | nil => intro τ; simp [wipe]
    | cons u us ih =>
      intro τ
      unfold wipe
      rw [List.getElem?_set]
      by_cases hu : u = j
      · subst hu
        rw [if_pos rfl, wipe_length]
        by_cases hl : u < τ.length
        · rw [if_pos hl, if_pos List.mem_cons_self, List.getElem?_eq_getElem hl]
          rfl
        · rw [if_neg hl, if_pos List.mem_cons_self, List.getElem?_eq_none (by omega)]
          rfl
      · rw [if_neg hu, ih]
        have e : (j ∈ u :: us) ↔ j ∈ us := by
          rw [List.mem_cons]
          exact ⟨fun h => h.resolve_left (Ne.symm hu), .inr⟩
        by_cases hj : j ∈ us
        · rw [if_pos hj, if_pos (e.mpr hj)]
        · rw [if_neg hj, if_neg fun z => hj (e.mp z)]
  rw [at_, at_]
  split
  · cases σ[j]? <;> rfl
  · rfl
theorem ew_lc {p : Pat} {wi : TI} {vs : List Nat} {R : Rs → Int → Prop} (hp : ∀ i ∈ p.ats, i ∈ vs) (h : WI P wi G n fun ds n1 => ds.length ≤ 100000 ∧ CompW P p tt te G vs (fun acc n2 => R (.l acc) n2) ds [] n1) : EW P (tLc wi (p.g P.K) tt te vs) G n R := fun C σ H S hP g k =>
  h C σ H _ hP g fun ds n1 J H1 q k1 d1 yl D hD => by
    obtain ⟨hz, q⟩ := q
    have g1 := g.keep k1 d1
    subst hP
    have dD : C.dr ≠ some D := fun z => by
      rw [d1 D z] at hD
      cases hD
    have inv0 : Keep C H1 (upd H1 D (.lst [])) := Keep.new hD
    refine ⟨fun i m H' => m = ds.length - i ∧ i ≤ ds.length ∧ ∃ acc ws n', H' D = some (.lst ws) ∧ DTs H' ws acc ∧ acc.length ≤ i ∧ Keep C H1 H' ∧ Dr C n' H' ∧ CompW C.pm p tt te G vs (fun acc n2 => R (.l acc) n2) (ds.drop i) acc n',
      ⟨ds.length, by omega, by omega, [], [], n1, upd_same, .nil, Nat.le_refl _, inv0, d1.new hD, q⟩, ?_⟩
    rintro i m H' ⟨rfl, hi, acc, ws, n', hw, ta, hacc, k2, d2, q'⟩
    have y := yl H' n' (fun a o e _ z => k2 a o e z) d2 i
    have g2 : Good C (wipeG G vs) n' (wipe σ vs) H' := (g1.keep k2 d2).wipe vs
    by_cases hlt : i < ds.length
    · have e := List.getElem?_eq_getElem hlt
      obtain ⟨go, yd⟩ := y.1 _ e
      rw [List.drop_eq_getElem_cons hlt] at q'
      obtain ⟨hl, G1, e1, q'⟩ := q'
      refine .inr ⟨go, fun H3 => ∃ acc ws n', H3 D = some (.lst ws) ∧ DTs H3 ws acc ∧ acc.length ≤ i + 1 ∧ Keep C H1 H3 ∧ Dr C n' H3 ∧ CompW C.pm p tt te G vs (fun acc n2 => R (.l acc) n2) (ds.drop (i + 1)) acc n',
        fun H3 ⟨acc, ws, n', a1, a2, a3, a4, a5, a6⟩ => ⟨ds.length - (i + 1), by omega, rfl, by omega, acc, ws, n', a1, a2, a3, a4, a5, a6⟩, fun x H2 hx => ?_⟩
      obtain ⟨k3, d3, r3⟩ := yd x H2 hx
      refine Pat.run (C := C) (g2.keep k3 d3) hl e1 r3 fun σ4 g4 hw4 => ⟨by rw [hw4 vs hp, wipe_idem], ?_⟩
      refine q' C σ4 H2 _ rfl g4 fun b n5 H5 q5 k5 d5 => ?_
      rcases br_or q5 with ⟨rfl, q5⟩ | ⟨rfl, q5⟩
      · rw [if_pos rfl]
        refine q5 C σ4 H5 _ rfl (g4.keep k5 d5) fun r n6 v H6 q6 k6 d6 r6 f6 => ?_
        obtain ⟨x6, rfl, q6⟩ := q6
        have k7 : Keep C H' H6 := (k3.trans k5).trans k6
        have h6 := k7 D _ hw dD
        refine ⟨ws, h6, ?_, acc ++ [x6], ws ++ [v], n6, upd_same, ?_, ?_, fun a o e z => ?_, fun a z => ?_, q6⟩
        · rw [ta.length]
          exact Nat.lt_of_lt_of_le (show acc.length < 100001 by omega) (by decide)
        · have tx : Tx H6 (upd H6 D (.lst (ws ++ [v]))) := fun a us e => by
            rw [upd_ne fun z => by rw [z, h6] at e; cases e]
            exact e
          exact ((ta.mono (k7.tx d2)).append (.cons r6 .nil)).mono tx
        · rw [List.length_append]
          show acc.length + 1 ≤ i + 1
          omega
        · rw [upd_ne (ne_of_none e hD)]
          exact (k2.trans k7) a o e z
        · rw [upd_ne fun y => dD (by rw [← y]; exact z)]
          exact d6 a z
      · rw [if_neg Bool.false_ne_true]
        have k7 : Keep C H' H5 := k3.trans k5
        exact ⟨acc, ws, n5, k7 D _ hw dD, ta.mono (k7.tx d2), by omega, k2.trans k7, d5, q5⟩
    · refine .inl ⟨y.2 (by omega), ?_⟩
      rw [List.drop_eq_nil_of_le (by omega)] at q'
      refine k _ n' _ H' q' (k1.trans k2) d2 ⟨D, ws, rfl, dD, hw, ta⟩ fun q e => ?_
      cases e
      exact k1.fresh g.frm.dr d1 hD
end
end Dl
set_option Elab.async false
set_option linter.all false
set_option maxRecDepth 100000
set_option autoImplicit false
/-! Dl7: calls of defs and what a def keeps, by data. -/
namespace Dl
open PySem PySem.Spec PyProof.Rows L2
abbrev DSpec := List Rs → Int → (Rs → Int → Prop) → Prop
def resOk : Rs → Bool
  | .d _ => true
  | .l _ => true
  | _ => false
def argOk : Rs → Bool
  | .l _ => false
  | .u => false
  | .x _ => false
  | _ => true
/-- a def's promise, by data -/
def spOf (P : Pm) (sp : DSpec) : Sp := fun vs H Q _ => ∃ (C : Cn) (n : Int) (rs : List Rs) (Qd : Rs → Int → Prop), C.pm = P ∧ C.H_0 = H ∧ Frm C n H ∧ Paired (Rep C H) rs vs ∧ (rs.all argOk = true) ∧ sp rs n Qd ∧
  ∀ r n' v H', Qd r n' → Keep C H H' → Dr C n' H' → Rep C H' r v → (∀ xs, r = .l xs → ∀ p, v = .ref p → H p = none) → Q v H'
section
variable {P : Pm} {G : List Rs} {n : Int} {ta : TA} {Q : Rs → Int → Prop} {sp : DSpec}
def pureArg (r : Rs) : Bool := argOk (bor r) && !(match r with | .w => true | _ => false)
theorem pure_call {C : Cn} {σ : L2.St} {H1 : Hp} {n1 : Int} {rs : List Rs} {vs : List V} {R : VK} {E : XK} (hP : C.pm = P) (g1 : Good C G n1 σ H1) (r1 : Paired (Rep C H1) rs vs) (ha : rs.all pureArg = true) (q : sp (rs.map bor) 0 fun r _ => resOk r = true ∧ Q r n1)
    (k : ∀ r v H', Q r n1 → Keep C H1 H' → Dr C n1 H' → Rep C H' r v → Fresh H1 r v → R v H') : spOf P sp vs H1 R E := by
  let C' : Cn := { C with H_0 := H1, dr := none }
  have hrep : Paired (Rep C' H1) (rs.map bor) vs := by
    clear q
    induction r1 with
    | nil => exact .nil
    | @cons r v rs vs a1 b ih =>
      rw [List.all_cons, Bool.and_eq_true] at ha
      refine .cons ?_ (ih ha.2)
      cases r with
      | d x => exact a1
      | l xs =>
        obtain ⟨p, us, e1, e2, e3, e4⟩ := a1
        exact ⟨p, us, e1, (fun z => nomatch z), e3, e4⟩
      | r xs =>
        obtain ⟨p, us, e1, e2, e3, e4⟩ := a1
        exact ⟨p, us, e1, (fun z => nomatch z), e3, e4⟩
      | w => exact absurd ha.1 (by simp [pureArg])
      | s => exact a1
      | t kvs => exact a1
      | x y => exact a1
      | u => trivial
  have hall : ((rs.map bor).all argOk) = true := by
    rw [List.all_map]
    refine List.all_eq_true.mpr fun r hr => ?_
    have := List.all_eq_true.mp ha r hr
    unfold pureArg at this
    rw [Bool.and_eq_true] at this
    exact this.1
  refine ⟨C', 0, rs.map bor, _, hP, rfl, ⟨fun a o e _ => e, g1.frm.scr_at, (fun _ z => nomatch z), .inl fun z => nomatch z⟩, hrep, hall, q, fun r n' v H' q2 k2 d2 r2 f2 => ?_⟩
  obtain ⟨hr, q2⟩ := q2
  have kk : Keep C H1 H' := fun a o e _ => k2 a o e (fun z => nomatch z)
  have dd : Dr C n1 H' := fun p z => k2 p _ (g1.frm.dr p z) (fun z => nomatch z)
  have fr : Fresh H1 r v := by
    cases r with
    | l xs => exact f2 xs rfl
    | _ => trivial
  refine k r v H' q2 kk dd ?_ fr
  cases r with
  | d x => exact r2
  | l xs =>
    obtain ⟨p, us, e1, e2, e3, e4⟩ := r2
    refine ⟨p, us, e1, fun z => ?_, e3, e4⟩
    have := f2 xs rfl p e1
    rw [g1.frm.dr p z] at this
    cases this
  | _ => cases hr
/-- a call that draws nothing -/
theorem ew_call {E : XK} (h : EA P ta G n fun rs n1 => rs.all pureArg = true ∧ sp (rs.map bor) 0 fun r _ => resOk r = true ∧ Q r n1) : EW P (tCall (spOf P sp) [] E ta) G n Q := fun C σ H R hP g k =>
  h C σ H _ hP g fun rs n1 vs H1 q k1 d1 r1 => by
    show spOf P sp (vs ++ []) H1 R E
    rw [List.append_nil]
    exact pure_call hP (g.keep k1 d1) (paired_imp r1 fun _ _ z => z.1) q.1 q.2 fun r v H' q2 k2 d2 r2 f2 => k r n1 v H' q2 (k1.trans k2) d2 r2 (f2.back k1 g.frm.dr d1)
theorem paired_snoc {α β : Type} {F : α → β → Prop} {l : List α} {m : List β} {a : α} {b : β} (h : Paired F l m) (x : F a b) : Paired F (l ++ [a]) (m ++ [b]) := by
  induction h with
  | nil => exact .cons x .nil
  | cons c _ ih => exact .cons c ih
/-- a call whose last argument is a default number -/
theorem ew_callD {E : XK} {z : Int} (h : EA P ta G n fun rs n1 => rs.all pureArg = true ∧ sp ((rs ++ [Rs.d (.int z)]).map bor) 0 fun r _ => resOk r = true ∧ Q r n1) : EW P (tCall (spOf P sp) [.int z] E ta) G n Q := fun C σ H R hP g k =>
  h C σ H _ hP g fun rs n1 vs H1 q k1 d1 r1 => by
    refine pure_call (rs := rs ++ [Rs.d (.int z)]) hP (g.keep k1 d1) (paired_snoc (paired_imp r1 fun _ _ z => z.1) (show DT H1 _ _ from .int z)) ?_ q.2 fun r v H' q2 k2 d2 r2 f2 => k r n1 v H' q2 (k1.trans k2) d2 r2 (f2.back k1 g.frm.dr d1)
    rw [List.all_append, q.1]
    rfl
/-- a call that may draw -/
theorem ew_callW {E : XK} (h : EA P ta G n fun rs n1 => (rs.all fun r => argOk (bor r)) = true ∧ sp (rs.map bor) n1 fun r n2 => resOk r = true ∧ Q r n2) : EW P (tCall (spOf P sp) [] E ta) G n Q := fun C σ H R hP g k =>
  h C σ H _ hP g fun rs n1 vs H1 q k1 d1 r1 => by
    obtain ⟨ha, q⟩ := q
    have g1 := g.keep k1 d1
    let C' : Cn := { C with H_0 := H1 }
    have hrep : Paired (Rep C' H1) (rs.map bor) (vs ++ []) := by
      rw [List.append_nil]
      clear q ha
      induction r1 with
      | nil => exact .nil
      | @cons r v rs vs a b ih =>
        refine .cons ?_ ih
        have a1 := a.1
        cases r <;> exact a1
    have hall : ((rs.map bor).all argOk) = true := by
      rw [List.all_map]
      exact ha
    refine ⟨C', n1, rs.map bor, _, hP, rfl, ⟨fun a o e _ => e, g1.frm.scr_at, d1, g1.frm.sd⟩, hrep, hall, q, fun r n' v H' q2 k2 d2 r2 f2 => ?_⟩
    obtain ⟨hr, q2⟩ := q2
    have kk : Keep C H1 H' := k2
    have fr : Fresh H1 r v := by
      cases r with
      | l xs => exact f2 xs rfl
      | _ => trivial
    refine k r n' v H' q2 (k1.trans kk) d2 ?_ (fr.back k1 g.frm.dr d1)
    cases r with
    | d x => exact r2
    | l xs => exact r2
    | _ => cases hr
end
/-! ### a def -/
theorem good_start {P : Pm} {C : Cn} {n : Int} {H : Hp} {rs : List Rs} {vs : List V} {N : List Str} (hl : vs.length ≤ N.length) (f : Frm C n H) (r : Paired (Rep C H) rs vs) (ha : rs.all argOk = true) :
    Good C (rs ++ List.replicate (N.length - rs.length) .u) n (L2.start N vs) H where
  frm := f
  len := by
    have := Paired.length r
    unfold L2.start
    rw [List.length_append, List.length_append, List.length_map, List.length_replicate, List.length_replicate, this]
  rep := fun i e h z => by
    have l := Paired.length r
    by_cases hi : i < rs.length
    · rw [List.getElem?_append_left hi] at h
      obtain ⟨v, h1, h2⟩ := paired_get r h
      refine ⟨v, ?_, h2⟩
      unfold L2.start
      rw [List.getElem?_append_left (by rw [List.length_map]; omega), List.getElem?_map, h1]
      rfl
    · rw [List.getElem?_append_right (by omega)] at h
      have := List.mem_of_getElem? h
      rw [List.mem_replicate] at this
      exact absurd this.2 z
  own := fun i xs p h hs => by
    by_cases hi : i < rs.length
    · rw [List.getElem?_append_left hi] at h
      have := List.all_eq_true.mp ha _ (List.mem_of_getElem? h)
      cases this
    · rw [List.getElem?_append_right (by omega)] at h
      have := List.mem_of_getElem? h
      rw [List.mem_replicate] at this
      cases this.2
theorem okD {P : Program} {w : World} {K : PySem.W.Frag} {mg : Str → Option Value} {base : Heap} {x qual : Str} {params : Arguments} {body : List Stmt} {scope : Scope} {dvs : List V} {kws : List (Str × V)} {f : Addr} {fd : FuncData} {N ps : List Str} {k : Nat} {sp : DSpec} {ns : List Int}
    (F : FunD K x qual params body scope dvs kws f fd) (S : FnScope N ps scope) (len : ∀ rs n Q, sp rs n Q → rs.length = ps.length)
    (hbody : ∀ (cdv : Value) (A : Around) (outer : List Env) (s : Shared) (H : Hp) (E : XK), Room k (A.deeper (envOfC qual scope s.heap.objs.size f cdv)) →
      ∃ t, PSs (cxOf CX0 P w K mg base N qual scope f cdv A outer s H E) body t ∧ ∀ rs n Q, sp rs n Q → SW ⟨K, ns, w⟩ t (rs ++ List.replicate (N.length - rs.length) .u) n { nx := fun _ n' => Q (.d .none) n', rt := Q }) :
    FnOk P w K mg base CX0 (k + 1) f fd ps (spOf ⟨K, ns, w⟩ sp) := by
  have lps : ps.length ≤ N.length := by
    have h := congrArg List.length S.pre
    rw [List.length_take] at h
    omega
  refine F.ok S (fun vs H Q E h => ?_) (fun cdv A outer s H vs Q E hr h => ?_)
  · obtain ⟨C, n, rs, Qd, _, _, _, r, _, h, _⟩ := h
    rw [← Paired.length r]
    exact len rs n Qd h
  · obtain ⟨t, ht, hw⟩ := hbody cdv A outer s H E hr
    obtain ⟨C, n, rs, Qd, hP, hH, hf, r, ha, h, kk⟩ := h
    have lv : vs.length ≤ N.length := by
      rw [← Paired.length r, len rs n Qd h]
      exact lps
    refine ⟨t, ht, hw rs n Qd h C (L2.start N vs) H _ hP (good_start (P := ⟨K, ns, w⟩) lv hf r ha) ?_⟩
    subst hH
    have kp : ∀ {n' : Int} {H' : Hp}, Frm C n' H' → Keep C C.H_0 H' := fun f a o e z => f.fr a o e z
    exact ⟨fun G1 n1 σ1 H1 d g1 => kk _ n1 _ H1 d (kp g1.frm) g1.frm.dr (show DT H1 _ _ from .non) (fun _ e => nomatch e),
      fun r1 n1 v1 H1 d f1 rp fr => kk r1 n1 v1 H1 d (kp f1) f1.dr rp fr, fun _ _ _ _ d => False.elim d, fun _ _ _ _ d => False.elim d⟩
end Dl
set_option Elab.async false
set_option linter.all false
set_option maxRecDepth 100000
set_option autoImplicit false
/-! Dl8: the rules in the forms that a walk takes step by step. -/
namespace Dl
open PySem PySem.Spec PyProof.Rows L2
def unD : List Rs → Option (List PyData)
  | [] => some []
  | .d x :: r => match unD r with
    | some xs => some (x :: xs)
    | none => none
  | _ :: _ => none
theorem unD_eq : ∀ {rs : List Rs} {xs : List PyData}, unD rs = some xs → rs = xs.map Rs.d
  | [], _, h => by cases h; rfl
  | .d x :: r, xs, h => by
    unfold unD at h
    cases q : unD r with
    | none => rw [q] at h; cases h
    | some ys =>
      rw [q] at h
      cases h
      rw [unD_eq q]
      rfl
  | .l _ :: _, _, h => by cases h
  | .r _ :: _, _, h => by cases h
  | .w :: _, _, h => by cases h
  | .s :: _, _, h => by cases h
  | .t _ :: _, _, h => by cases h
  | .x _ :: _, _, h => by cases h
  | .u :: _, _, h => by cases h
section
variable {P : Pm} {G : List Rs} {n : Int} {te : TE} {tr : TA} {Q : Rs → Int → Prop} {i : Nat}
theorem ew_varD {x : PyData} (h : G[i]? = some (.d x)) (q : Q (.d x) n) : EW P (tVar i) G n Q := ew_var h (fun z => nomatch z) q
theorem ew_varL {xs : List PyData} (h : G[i]? = some (.l xs)) (q : Q (.r xs) n) : EW P (tVar i) G n Q := ew_var h (fun z => nomatch z) q
theorem ew_varR {xs : List PyData} (h : G[i]? = some (.r xs)) (q : Q (.r xs) n) : EW P (tVar i) G n Q := ew_var h (fun z => nomatch z) q
theorem ew_varW (h : G[i]? = some .w) (q : Q .w n) : EW P (tVar i) G n Q := ew_var h (fun z => nomatch z) q
theorem ew_varS (h : G[i]? = some .s) (q : Q .s n) : EW P (tVar i) G n Q := ew_var h (fun z => nomatch z) q
theorem ew_varT {kvs : List (PyData × PyData)} (h : G[i]? = some (.t kvs)) (q : Q (.t kvs) n) : EW P (tVar i) G n Q := ew_var h (fun z => nomatch z) q
theorem ew_tupE (h : EA P tr G n fun rs n1 => ∃ xs, unD rs = some xs ∧ xs.length ≤ 1000 ∧ Q (.d (.tuple xs)) n1) : EW P (tTup tr) G n Q := ew_tup fun C σ H R hP g k => h C σ H R hP g fun rs n' vs H' q => k rs n' vs H' (by
  obtain ⟨xs, e, z⟩ := q
  exact ⟨xs, unD_eq e, z⟩)
theorem ew_lstE (h : EA P tr G n fun rs n1 => ∃ xs, unD rs = some xs ∧ xs.length ≤ 1000 ∧ Q (.l xs) n1) : EW P (tLst tr) G n Q := ew_lst fun C σ H R hP g k => h C σ H R hP g fun rs n' vs H' q => k rs n' vs H' (by
  obtain ⟨xs, e, z⟩ := q
  exact ⟨xs, unD_eq e, z⟩)
end
end Dl
set_option Elab.async false
set_option linter.all false
set_option maxRecDepth 100000
set_option autoImplicit false
/-! Dl9: numbered items of a tuple; items of a tuple and of a list side by side; all of truths; a tuple turned. -/
namespace Dl
open PySem PySem.Spec PyProof.Rows L2
/-! ### enumerate(tuple) -/
def ItN (K : PySem.W.Frag) (a : Addr) (N : Nat) : It :=
  ⟨fun i H => ∃ xs x, SqT K H a xs ∧ xs.length = N ∧ xs[i]? = some x, fun i H v H' => ∃ p x, v = .ref p ∧ H p = none ∧ H' = upd H p (.tup [.int (i : Nat), x]) ∧ ∀ xs, SqT K H a xs → xs[i]? = some x, fun i H => ∃ xs : List V, SqT K H a xs ∧ xs.length = N ∧ N ≤ i⟩
theorem fp_ne {X : Cx} {pins : List (Addr × Obj)} {H : Hp} {a b : Addr} {o : HO} (h : FpOk X pins H b) (e : H a = some o) : a ≠ b := fun z => by
  rw [z, h.1] at e
  cases e
theorem tupOk {P : Program} {w : World} {H : Hp} {h : Heap} {T : Addr} {x y : V} {u1 u2 : Value} (r1 : RelV x u1) (r2 : RelV y u2) (t : h.IsTuple T #[u1, u2]) : ObjOk P w (upd H T (.tup [x, y])) h T (.tup [x, y]) :=
  ⟨by show 2 ≤ sizeLine; decide, [u1, u2], .cons r1 (.cons r2 .nil), t⟩
theorem turn_numT {P : Program} {w : World} {K : PySem.W.Frag} {es : List Expr} {m : Nat} {q : Pos} (a e it : Addr) (N : Nat) (hea : e ≠ a) (hia : a ≠ it) (hei : e ≠ it) :
    Turn P w K (.Tuple es m q) (ItN K a N) [e, it] e (fun i h => i ≤ N ∧ (∃ old, IsEnum h e it (0 + (i : Int)) old) ∧ h.IsTupleIter it a i) where
  mem := List.mem_cons_self ..
  obj := fun i h st b hb => by
    obtain ⟨_, ⟨old, he⟩, o, ho, _, hd⟩ := st
    rcases List.mem_cons.1 hb with rfl | hb
    · exact ⟨_, he, fun v q => nomatch q⟩
    · rw [List.mem_singleton.1 hb]
      exact ⟨o, ho, fun v q => by rw [hd] at q; cases q⟩
  keep := fun i h h' st k => by
    obtain ⟨z, ⟨old, he⟩, t⟩ := st
    exact ⟨z, ⟨old, k e (List.mem_cons_self ..) _ he⟩, t.at fun o q => k it (List.mem_cons_of_mem _ (List.mem_cons_self ..)) o q⟩
  item := fun X hP hw hK hc i pins s σ H E I hf st hg => by
    subst hP hw hK
    obtain ⟨xs, x, hq, hn, hx⟩ := hg
    obtain ⟨_, st⟩ := st
    obtain ⟨its, rv, p, _⟩ := I.tuple hq
    obtain ⟨u, hu, ru⟩ := rv.get hx
    have hl : i < its.length := by
      rcases Nat.lt_or_ge i its.length with z | z
      · exact z
      · rw [List.getElem?_eq_none z] at hu; cases hu
    have D := Draws.tuple (prog := X.prog) (w := X.w) (A := X.A.in1) (I.ok.hd hc) it a hia its.toArray
    have W := GoesN.enumFrom (elts := es) (x1 := m) (pos := q) 0 D e hei (by simp [hei, hea]) (List.mem_cons_self ..)
    refine wpAny_mono (W.goes i s (fun v s2 => ∃ x H', Inv X pins σ H' s2 ∧ RelV x v ∧ (ItN X.K a N).yld i H x H' ∧ (i + 1 ≤ N ∧ (∃ old, IsEnum s2.heap e it (0 + ((i + 1 : Nat) : Int)) old) ∧ s2.heap.IsTupleIter it a (i + 1)) ∧ ∀ b ∈ [e, it], H' b = none) E (by simpa using hl) ⟨st.1, st.2, p⟩ fun v h' tk hY st' hk htk => ?_) (fun r s1 h1 => h1) fun _ _ z => z
    obtain ⟨T, tk', y, rfl, hT, hy, ht⟩ := hY
    have ey : y = u := by
      have hy' : its[i]? = some y := by simpa using hy
      rw [hu] at hy'
      exact (Option.some.inj hy').symm
    subst ey
    have new := tupOk (P := X.prog) (w := X.w) (H := H) (x := .int (i : Nat)) (y := x) ⟨tk', by rw [Int.zero_add]⟩ ru ht
    refine ⟨.ref T, _, I.turnedNew (ch := [e, it]) hk hf hT new, rfl, ⟨T, x, rfl, I.hok.fresh hT, rfl, fun ys hys => by rw [I.tuple_inj hys hq]; exact hx⟩, ⟨by have := rv.length; omega, st'.1, st'.2.1⟩, fun b hb => ?_⟩
    have nb := (hf b hb).1
    have bl : b < s.heap.objs.size := by
      rcases List.mem_cons.1 hb with rfl | hb
      · obtain ⟨⟨_, z⟩, _⟩ := st
        exact Heap.lt_size z
      · rw [List.mem_singleton.1 hb]
        obtain ⟨_, _, z, _⟩ := st
        exact Heap.lt_size z
    rw [upd_ne (Nat.ne_of_lt (Nat.lt_of_lt_of_le bl hT))]
    exact nb
  done := fun X hP hw hK hc i pins s σ H E I hf st hg => by
    subst hP hw hK
    obtain ⟨xs, hq, hn, hx⟩ := hg
    obtain ⟨its, rv, p, _⟩ := I.tuple hq
    obtain ⟨hi, st⟩ := st
    have hl := rv.length
    have ei : i = its.toArray.size := by
      rw [List.size_toArray]
      omega
    subst ei
    have D := Draws.tuple (prog := X.prog) (w := X.w) (A := X.A.in1) (I.ok.hd hc) it a hia its.toArray
    have W := GoesN.enumFrom (elts := es) (x1 := m) (pos := q) 0 D e hei (by simp [hei, hea]) (List.mem_cons_self ..)
    exact W.stops s _ E ⟨st.1, st.2, p⟩ fun h' tk hk _ => I.turnedL (ch := [e, it]) hk hf
  self := fun A i s Q E st h => by
    obtain ⟨_, ⟨_, he⟩, _⟩ := st
    exact wpAny_pyIter_enum he h
theorem meets_num {v : Value} {o : Obj} {S : Heap → Prop} (B : Begins v o S) :
    Meets (Builtin.«enumerate.__new__» ⟨[.type "enumerate", v], []⟩) (fun _ R s => S s.heap ∧
      R (.ok (.ret (.ref (s.heap.push o).objs.size))) { s with heap := (s.heap.push o).push { cls := .type "enumerate", data := .fields #[.none, .bool false, .ref s.heap.objs.size, rawInt 0, .none, .none] } }) :=
  .of_wp fun prog w A R s h => by
    obtain ⟨hp, g, d, tk, os⟩ := s
    obtain ⟨h0, h⟩ := h
    have hsub := sub_enumerate
    have step : ∀ {A1 : Around} {E : Value → Shared → Prop} {Q : Value → Shared → Prop}, Q (.ref hp.objs.size) ⟨hp.push o, g, d, tk, os⟩ → wpAny (model prog w) A1 (pyIter v) Q E ⟨hp, g, d, tk, os⟩ :=
      fun q => B.iter prog w _ _ ⟨hp, g, d, tk, os⟩ _ h0 q
    wp_walk using step
    refine wpAny_stack_any fun st => wpAny_pure ?_
    split
    · rename_i c _ _ _ _ _
      cases (c == Value.type "enumerate") <;> (wp_walk using step; exact ⟨_, rfl, h⟩)
    · wp_walk using step
      exact ⟨_, rfl, h⟩
theorem num_begins {prog : Program} {w : World} {A : Around} {E : Value → Shared → Prop} {s : Shared} {v : Value} {o : Obj} {S : Heap → Prop} {Q : Value → Shared → Prop} (B : Begins v o S) (h0 : S s.heap)
    (k : ∀ h', IsEnum h' (s.heap.objs.size + 1) s.heap.objs.size 0 .none → h'.get? s.heap.objs.size = some o → (∀ b ob, s.heap.get? b = some ob → h'.get? b = some ob) → Q (.ref (s.heap.objs.size + 1)) { s with heap := h' }) :
    wpAny (model prog w) A (call (.type "enumerate") [v]) Q E s := by
  refine callType_new F.called_enumerate (by decide) (F.typeCall_enumerate_1 _) (F.newCall_enumerate_1 _) (fun ob => F.args_object_init_2 ob _) F.entry_enumerate_new (meets_num B) ⟨h0, ?_⟩
  have z1 : (s.heap.push o).objs.size = s.heap.objs.size + 1 := Heap.size_push ..
  have g1 := Heap.get?_push_size (s.heap.push o) (o := { cls := .type "enumerate", data := .fields #[.none, .bool false, .ref s.heap.objs.size, rawInt 0, .none, .none] }) rfl
  rw [z1] at g1
  show _ ∧ _
  rw [z1]
  exact ⟨⟨_, g1, rfl⟩, k _ g1 (Heap.get?_push_of_some _ (Heap.get?_push_size _ B.free)) fun b ob x => Heap.get?_push_of_some _ (Heap.get?_push_of_some _ x)⟩
def iNumT (K : PySem.W.Frag) (ta : TA) : TI := fun σ H R => ta σ H fun vs H1 => ∃ a xs, vs = [.ref a] ∧ SqT K H1 a xs ∧ R (ItN K a xs.length) H1
theorem pi_enumT {X : Cx} {e : Expr} {ta : TA} {p pos tpos : Pos} {es : List Expr} {m : Nat} (hg : Gl X "enumerate") (hm : X.mg "enumerate" = none) (ha : PA X [e] ta) (hs : starEach [e] X.env = [(false, eval e X.env)] := by rfl) :
    PI X (.Tuple es m tpos) (.Call (.Name "enumerate" p) [e] [] pos) (iNumT X.K ta) := by
  refine ⟨fun pins s σ H R I h => ?_⟩
  refine Call_ (ld_blt I hg hm boot_enumerate (PyProof.Rows.callWith_type1 (thn (ha.run pos pins s σ H _ I h) fun us s1 ⟨vs, H1, I1, r1, q1⟩ => ?_) hs rfl))
  obtain ⟨a, xs, rfl, hq, q⟩ := q1
  cases r1 with
  | cons r rr =>
    cases rr
    cases r
    obtain ⟨its, rv, pt, _⟩ := I1.tuple hq
    have al : a < s1.heap.objs.size := by
      obtain ⟨o, z, _⟩ := id pt
      exact Heap.lt_size z
    refine num_begins (begins_tuple a its.toArray) pt fun h' he hi hk => wpAny_pyIter_enum he ?_
    have I2 : Inv X pins σ H1 { s1 with heap := h' } := I1.kept (t' := s1.toks) hk
    refine ⟨s1.heap.objs.size + 1, [s1.heap.objs.size + 1, s1.heap.objs.size], _, _, H1, rfl, I2, turn_numT a _ _ xs.length (Ne.symm (Nat.ne_of_lt (Nat.lt_succ_of_lt al))) (Nat.ne_of_lt al) (Nat.succ_ne_self _), ⟨Nat.zero_le _, ⟨_, he⟩, ⟨_, hi, rfl, rfl⟩⟩, fun b hb => ?_, q⟩
    have hle : s1.heap.objs.size ≤ b := by
      rcases List.mem_cons.1 hb with rfl | hb
      · exact Nat.le_succ _
      · rw [List.mem_singleton.1 hb]
        exact Nat.le_refl _
    exact I1.fpOk hle (I1.hok.fresh hle)
section
variable {P : Pm} {G : List Rs} {n : Int} {te : TE} {ta : TA} {Q : List PyData → Int → Prop}
theorem wi_enumT (h : EA P ta G n fun rs n1 => ∃ ds, rs = [.d (.tuple ds)] ∧ Q (enumD 0 ds) n1) : WI P (iNumT P.K ta) G n Q := fun C σ H R hP g k =>
  h C σ H _ hP g fun rs n1 vs H1 q k1 d1 r1 => by
    obtain ⟨ds, rfl, q⟩ := q
    cases r1 with
    | cons r rr =>
      cases rr
      obtain ⟨a, xs, rfl, h2, ts⟩ := rep_t r.1
      refine ⟨a, xs, rfl, SqT.of h2, k _ n1 _ H1 q k1 d1 fun H' n' st d' m => ?_⟩
      have g1 := g.keep k1 d1
      have h3 := st a _ h2 (no_own_tup g1 h2) (dr_tup d1 h2)
      have tx := tups_stay g1 st
      refine ⟨fun d hd => ?_, fun hm => ⟨xs, SqT.of h3, rfl, by rw [ts.length]; rw [enumD_len] at hm; exact hm⟩⟩
      obtain ⟨z, e0, rfl⟩ := enumD_get hd
      obtain ⟨x, e1, e2⟩ := ts.get e0
      refine ⟨⟨xs, x, SqT.of h3, rfl, e1⟩, fun y H'' hy => ?_⟩
      obtain ⟨T, x', rfl, hT, rfl, f⟩ := hy
      have f := f xs (SqT.of h3)
      rw [e1] at f
      cases f
      have kn : Keep C H' (upd H' T (.tup [.int (m : Nat), x])) := Keep.new hT
      refine ⟨kn, d'.new hT, .tup upd_same (.cons ?_ (.cons ((e2.mono tx).mono (kn.tx d')) .nil))⟩
      rw [Nat.zero_add]
      exact .int _
end
/-! ### zip(tuple, list) -/
def ItM (K : PySem.W.Frag) (a b : Addr) (N : Nat) : It :=
  ⟨fun i H => ∃ xs ys x y, SqT K H a xs ∧ SqL K H b ys ∧ (xs.length = N ∧ ys.length = N) ∧ xs[i]? = some x ∧ ys[i]? = some y,
   fun i H v H' => ∃ p x y, v = .ref p ∧ H p = none ∧ H' = upd H p (.tup [x, y]) ∧ (∀ xs, SqT K H a xs → xs[i]? = some x) ∧ ∀ ys, SqL K H b ys → ys[i]? = some y,
   fun i H => ∃ xs ys : List V, SqT K H a xs ∧ SqL K H b ys ∧ (xs.length = N ∧ ys.length = N) ∧ N ≤ i⟩
theorem mem5 {α : Type} {c p q r s t : α} (h : c ∈ [p, q, r, s, t]) : c = p ∨ c = q ∨ c = r ∨ c = s ∨ c = t := by simpa using h
theorem sub5 {α : Type} {c p q r s t : α} (h : c ∈ [p, r, s, t]) : c ∈ [p, q, r, s, t] := by
  simp only [List.mem_cons, List.not_mem_nil, or_false] at h ⊢
  rcases h with h | h | h | h
  · exact .inl h
  · exact .inr (.inr (.inl h))
  · exact .inr (.inr (.inr (.inl h)))
  · exact .inr (.inr (.inr (.inr h)))
theorem turn_mix {P : Program} {w : World} {K : PySem.W.Frag} {es : List Expr} {m : Nat} {q : Pos} (a b M N : Nat) (ha : a < M) (hb : b < M) :
    Turn P w K (.Tuple es m q) (ItM K a b N) [M + 4, M + 2, M + 3, M, M + 1] (M + 4) (fun i h => i ≤ N ∧ IsZip h (M + 4) (M + 2) (M + 3) .none ∧ IsTupOf2 h (M + 2) (.ref M) (.ref (M + 1)) ∧ (∃ u v, IsTupOf2 h (M + 3) u v) ∧ h.IsTupleIter M a i ∧ h.IsListIter (M + 1) b i) where
  mem := List.mem_cons_self ..
  obj := fun i h st c hc => by
    obtain ⟨_, h1, h2, ⟨u, v, h3⟩, ⟨o4, h4, _, d4⟩, o5, h5, _, d5⟩ := st
    rcases mem5 hc with rfl | rfl | rfl | rfl | rfl
    · exact ⟨_, h1, fun v q => nomatch q⟩
    · exact ⟨_, h2, fun v q => nomatch q⟩
    · exact ⟨_, h3, fun v q => nomatch q⟩
    · exact ⟨o4, h4, fun v q => by rw [d4] at q; cases q⟩
    · exact ⟨o5, h5, fun v q => by rw [d5] at q; cases q⟩
  keep := fun i h h' st k => by
    obtain ⟨z, h1, h2, ⟨u, v, h3⟩, h4, h5⟩ := st
    exact ⟨z, k _ (by simp) _ h1, k _ (by simp) _ h2, ⟨u, v, k _ (by simp) _ h3⟩, h4.at fun o e => k _ (by simp) o e, h5.at fun o e => k _ (by simp) o e⟩
  item := fun X hP hw hK hc i pins s σ H E I hf st hg => by
    subst hP hw hK
    obtain ⟨xs, ys, x, y, hqx, hqy, hn, hx, hy⟩ := hg
    obtain ⟨_, st⟩ := st
    obtain ⟨its, rv, p, _⟩ := I.tuple hqx
    obtain ⟨its2, rv2, p2, _⟩ := I.list hqy
    obtain ⟨u, hu, ru⟩ := rv.get hx
    obtain ⟨u2, hu2, ru2⟩ := rv2.get hy
    have hl := rv.length
    have hl2 := rv2.length
    have hi : i < its.length := by
      rcases Nat.lt_or_ge i its.length with z | z
      · exact z
      · rw [List.getElem?_eq_none z] at hu; cases hu
    have hh := I.ok.hd hc
    have D1 := Draws.tuple (prog := X.prog) (w := X.w) (A := X.A.in1) hh M a (Nat.ne_of_lt ha) its.toArray
    have D2 := Draws.list (prog := X.prog) (w := X.w) (A := X.A.in1) hh (M + 1) b (Nat.ne_of_lt (Nat.lt_succ_of_lt hb)) its2.toArray
    have W := GoesN.zip2 (elts := es) (x1 := m) (pos := q) (zip_sep2 (N := M) (fp1 := [a]) (fp2 := [b]) (fun c h => by rw [List.mem_singleton.1 h]; exact ha) (fun c h => by rw [List.mem_singleton.1 h]; exact hb)) D1 D2
    have hmin : i < min its.toArray.size its2.toArray.size := by
      rw [List.size_toArray, List.size_toArray]
      omega
    have e1 := st.1
    have e2 := st.2.1
    have e3 := st.2.2.1
    refine wpAny_mono (W.goes i s (fun v s2 => ∃ x H', Inv X pins σ H' s2 ∧ RelV x v ∧ (ItM X.K a b N).yld i H x H' ∧ (i + 1 ≤ N ∧ IsZip s2.heap (M + 4) (M + 2) (M + 3) .none ∧ IsTupOf2 s2.heap (M + 2) (.ref M) (.ref (M + 1)) ∧ (∃ u v, IsTupOf2 s2.heap (M + 3) u v) ∧ s2.heap.IsTupleIter M a (i + 1) ∧ s2.heap.IsListIter (M + 1) b (i + 1)) ∧ ∀ c ∈ [M + 4, M + 2, M + 3, M, M + 1], H' c = none) E hmin ⟨st.1, st.2.1, st.2.2.1, ⟨st.2.2.2.1, p⟩, st.2.2.2.2, p2.isList⟩ fun v h' tk hY st' hk htk => ?_) (fun r s1 h1 => h1) fun _ _ z => z
    obtain ⟨T, v1, v2, rfl, hT, hv1, hv2, ht⟩ := hY
    have hv1 : its[i]? = some v1 := by simpa using hv1
    have hv2 : its2[i]? = some v2 := by simpa using hv2
    rw [hu] at hv1
    rw [hu2] at hv2
    cases hv1
    cases hv2
    have new := tupOk (P := X.prog) (w := X.w) (H := H) (x := x) (y := y) ru ru2 ht
    refine ⟨.ref T, _, I.turnedNew (ch := [M + 4, M + 2, M + 3, M, M + 1]) (fun c o hc e => hk c o (fun hm => hc (sub5 hm)) e) hf hT new, rfl, ⟨T, x, y, rfl, I.hok.fresh hT, rfl, fun ys hys => by rw [I.tuple_inj hys hqx]; exact hx, fun ys hys => by rw [I.list_inj hys hqy]; exact hy⟩, ⟨by omega, st'.1, st'.2.1, st'.2.2.1, st'.2.2.2.1.1, st'.2.2.2.2.1⟩, fun c hc => ?_⟩
    have nb := (hf c hc).1
    have bl : c < s.heap.objs.size := by
      obtain ⟨_, _, e3, ⟨_, e4, _⟩, ⟨_, e5, _⟩⟩ := st
      obtain ⟨_, _, e3⟩ := e3
      rcases mem5 hc with rfl | rfl | rfl | rfl | rfl
      · exact Heap.lt_size e1
      · exact Heap.lt_size e2
      · exact Heap.lt_size e3
      · exact Heap.lt_size e4
      · exact Heap.lt_size e5
    rw [upd_ne (Nat.ne_of_lt (Nat.lt_of_lt_of_le bl hT))]
    exact nb
  done := fun X hP hw hK hc i pins s σ H E I hf st hg => by
    subst hP hw hK
    obtain ⟨xs, ys, hqx, hqy, hn, hx⟩ := hg
    obtain ⟨hi, st⟩ := st
    obtain ⟨its, rv, p, _⟩ := I.tuple hqx
    obtain ⟨its2, rv2, p2, _⟩ := I.list hqy
    have hl := rv.length
    have hl2 := rv2.length
    have ei : i = min its.toArray.size its2.toArray.size := by
      rw [List.size_toArray, List.size_toArray]
      omega
    subst ei
    have hh := I.ok.hd hc
    have D1 := Draws.tuple (prog := X.prog) (w := X.w) (A := X.A.in1) hh M a (Nat.ne_of_lt ha) its.toArray
    have D2 := Draws.list (prog := X.prog) (w := X.w) (A := X.A.in1) hh (M + 1) b (Nat.ne_of_lt (Nat.lt_succ_of_lt hb)) its2.toArray
    have W := GoesN.zip2 (elts := es) (x1 := m) (pos := q) (zip_sep2 (N := M) (fp1 := [a]) (fp2 := [b]) (fun c h => by rw [List.mem_singleton.1 h]; exact ha) (fun c h => by rw [List.mem_singleton.1 h]; exact hb)) D1 D2
    exact W.stops s _ E ⟨st.1, st.2.1, st.2.2.1, ⟨st.2.2.2.1, p⟩, st.2.2.2.2, p2.isList⟩ fun h' tk hk _ => I.turnedL (ch := [M + 4, M + 2, M + 3, M, M + 1]) (fun c o hc e => hk c o (fun hm => hc (sub5 hm)) e) hf
  self := fun A i s Q E st h => wpAny_pyIter_zip st.2.1 h
def iMix (K : PySem.W.Frag) (ta : TA) : TI := fun σ H R => ta σ H fun vs H1 => ∃ (a b : Addr) (xs ys : List V), vs = [.ref a, .ref b] ∧ SqT K H1 a xs ∧ SqL K H1 b ys ∧ xs.length = ys.length ∧ R (ItM K a b ys.length) H1
theorem pi_zipTL {X : Cx} {e e2 : Expr} {ta : TA} {p pos tpos : Pos} {es : List Expr} {m : Nat} (hg : Gl X "zip") (hm : X.mg "zip" = none) (ha : PA X [e, e2] ta)
    (hs : starEach [e, e2] X.env = (false, eval e X.env) :: starEach [e2] X.env := by rfl) (hpl : (backTo pos (starEach [e2] X.env)).any (·.1) = false := by rfl) :
    PI X (.Tuple es m tpos) (.Call (.Name "zip" p) [e, e2] [] pos) (iMix X.K ta) := by
  refine ⟨fun pins s σ H R I h => ?_⟩
  refine Call_ (ld_blt I hg hm PyProof.Rows.boot_zip (PyProof.Rows.callWith_type1 (thn (ha.run pos pins s σ H _ I h) fun us s1 ⟨vs, H1, I1, r1, q1⟩ => ?_) hs hpl))
  obtain ⟨a, b, xs, ys, rfl, hqx, hqy, hl, q⟩ := q1
  cases r1 with
  | cons r rr =>
    cases rr with
    | cons r' rr =>
      cases rr
      cases r
      cases r'
      obtain ⟨its, rv, p1, _⟩ := I1.tuple hqx
      obtain ⟨its2, rv2, p2, _⟩ := I1.list hqy
      have al : a < s1.heap.objs.size := by
        obtain ⟨o, z, _⟩ := id p1
        exact Heap.lt_size z
      refine zip_begins2 (begins_tuple a its.toArray) (begins_list b its2.toArray) p1 p2.isList fun h' h1 h2 h3 h4 h5 _ hk => wpAny_pyIter_zip h1 ?_
      have I2 : Inv X pins σ H1 { s1 with heap := h' } := I1.kept (t' := s1.toks) hk
      refine ⟨s1.heap.objs.size + 4, _, _, _, H1, rfl, I2, turn_mix a b s1.heap.objs.size ys.length al p2.lt, ⟨Nat.zero_le _, h1, h2, ⟨_, _, h3⟩, ⟨_, h4, rfl, rfl⟩, ⟨_, h5, rfl, rfl⟩⟩, fun c hc => ?_, q⟩
      have hle : s1.heap.objs.size ≤ c := by
        rcases mem5 hc with rfl | rfl | rfl | rfl | rfl
        · exact Nat.le_add_right _ _
        · exact Nat.le_add_right _ _
        · exact Nat.le_add_right _ _
        · exact Nat.le_refl _
        · exact Nat.le_add_right _ _
      exact I1.fpOk hle (I1.hok.fresh hle)
/-- items side by side -/
def zipD : List PyData → List PyData → List PyData
  | x :: xs, y :: ys => .tuple [x, y] :: zipD xs ys
  | _, _ => []
theorem zipD_get : ∀ {xs ys : List PyData} {j : Nat} {d : PyData}, (zipD xs ys)[j]? = some d → ∃ x y, xs[j]? = some x ∧ ys[j]? = some y ∧ d = .tuple [x, y]
  | x :: xs, y :: ys, 0, d, h => ⟨x, y, rfl, rfl, (Option.some.inj h).symm⟩
  | x :: xs, y :: ys, j + 1, d, h => zipD_get (xs := xs) (ys := ys) (j := j) h
  | [], _, _, _, h => by
    simp only [zipD] at h
    cases h
  | x :: xs, [], _, _, h => by
    simp only [zipD] at h
    cases h
theorem zipD_len : ∀ {xs ys : List PyData}, xs.length = ys.length → (zipD xs ys).length = ys.length
  | x :: xs, y :: ys, h => by
    have h' : xs.length = ys.length := Nat.succ.inj h
    simp only [zipD, List.length_cons, zipD_len h']
  | [], [], _ => rfl
  | [], y :: ys, h => nomatch h
  | x :: xs, [], h => nomatch h
section
variable {P : Pm} {G : List Rs} {n : Int} {te : TE} {ta : TA} {Q : List PyData → Int → Prop}
theorem wi_zipT (h : EA P ta G n fun rs n1 => ∃ ds es, rs = [.d (.tuple ds), .d (.tuple es)] ∧ ds.length = es.length ∧ Q (zipD ds es) n1) : WI P (RZ.iZipA P.K ta) G n Q := fun C σ H R hP g k =>
  h C σ H _ hP g fun rs n1 vs H1 q k1 d1 r1 => by
    obtain ⟨ds, es, rfl, hl, q⟩ := q
    cases r1 with
    | cons r rr =>
      cases rr with
      | cons r' rr =>
        cases rr
        obtain ⟨a, xs, rfl, h2, ts⟩ := rep_t r.1
        obtain ⟨b, ys, rfl, h2', ts'⟩ := rep_t r'.1
        refine ⟨a, b, xs, ys, rfl, .inr ⟨SqT.of h2, SqT.of h2', k _ n1 _ H1 q k1 d1 fun H' n' st d' m => ?_⟩⟩
        have g1 := g.keep k1 d1
        have h3 := st a _ h2 (no_own_tup g1 h2) (dr_tup d1 h2)
        have h3' := st b _ h2' (no_own_tup g1 h2') (dr_tup d1 h2')
        have tx := tups_stay g1 st
        refine ⟨fun d hd => ?_, fun hm => ⟨xs, ys, SqT.of h3, SqT.of h3', .inr (by rw [ts'.length]; rw [zipD_len hl] at hm; exact hm)⟩⟩
        obtain ⟨x, y, e0, e0', rfl⟩ := zipD_get hd
        obtain ⟨vx, e1, e2⟩ := ts.get e0
        obtain ⟨vy, e1', e2'⟩ := ts'.get e0'
        refine ⟨⟨xs, ys, vx, vy, SqT.of h3, SqT.of h3', e1, e1'⟩, fun y H'' hy => ?_⟩
        obtain ⟨T, x', y', rfl, hT, rfl, f, f'⟩ := hy
        have f := f xs (SqT.of h3)
        have f' := f' ys (SqT.of h3')
        rw [e1] at f
        rw [e1'] at f'
        cases f
        cases f'
        have kn : Keep C H' (upd H' T (.tup [vx, vy])) := Keep.new hT
        exact ⟨kn, d'.new hT, .tup upd_same (.cons ((e2.mono tx).mono (kn.tx d')) (.cons ((e2'.mono tx).mono (kn.tx d')) .nil))⟩
/-- the list by its slot, only read -/
theorem wi_zipM {k : Nat} {es : List PyData} (hk : G[k]? = some (.r es)) (h : EW P te G n fun r n1 => ∃ ds, r = .d (.tuple ds) ∧ ds.length = es.length ∧ n1 = n ∧ Q (zipD ds es) n1) : WI P (iMix P.K (tCons te (tCons (tVar k) tNil))) G n Q := fun C σ H R hP g kk =>
  h C σ H _ hP g fun r n1 v H1 q k1 d1 r1 _ => by
    obtain ⟨ds, rfl, hl, rfl, q⟩ := q
    have g1 := g.keep k1 d1
    obtain ⟨b, ys, s1, s2, h2', ts', no⟩ := no_own_r g1 hk
    obtain ⟨a, xs, rfl, h2, ts⟩ := rep_t r1
    subst hP
    refine ⟨.ref b, s1, a, b, xs, ys, rfl, SqT.of h2, SqL.of h2', by rw [ts.length, ts'.length]; exact hl, kk _ n1 _ H1 q k1 d1 fun H' n' st d' m => ?_⟩
    have h3 := st a _ h2 (no_own_tup g1 h2) (dr_tup d1 h2)
    have h3' := st b _ h2' no s2
    have tx := tups_stay g1 st
    have len : xs.length = ys.length := by rw [ts.length, ts'.length]; exact hl
    refine ⟨fun d hd => ?_, fun hm => ⟨xs, ys, SqT.of h3, SqL.of h3', ⟨len, rfl⟩, by rw [ts'.length]; rw [zipD_len hl] at hm; exact hm⟩⟩
    obtain ⟨x, y, e0, e0', rfl⟩ := zipD_get hd
    obtain ⟨vx, e1, e2⟩ := ts.get e0
    obtain ⟨vy, e1', e2'⟩ := ts'.get e0'
    refine ⟨⟨xs, ys, vx, vy, SqT.of h3, SqL.of h3', ⟨len, rfl⟩, e1, e1'⟩, fun y H'' hy => ?_⟩
    obtain ⟨T, x', y', rfl, hT, rfl, f, f'⟩ := hy
    have f := f xs (SqT.of h3)
    have f' := f' ys (SqL.of h3')
    rw [e1] at f
    rw [e1'] at f'
    cases f
    cases f'
    have kn : Keep C H' (upd H' T (.tup [vx, vy])) := Keep.new hT
    exact ⟨kn, d'.new hT, .tup upd_same (.cons ((e2.mono tx).mono (kn.tx d')) (.cons ((e2'.mono tx).mono (kn.tx d')) .nil))⟩
end
/-! ### all of truths -/
section
variable {P : Pm}
theorem bools_of {H : Hp} : ∀ {bs : List Bool} {vs : List V}, DTs H vs (bs.map PyData.bool) → vs = bs.map V.bl
  | [], vs, h => by
    cases h
    rfl
  | b :: bs, vs, h => by
    cases h with
    | cons a r =>
      cases a
      rw [bools_of r]
      rfl
theorem cw_all {bs : List Bool} {r : Rs} {Q : Rs → Prop} (e : r = .l (bs.map PyData.bool) ∨ r = .r (bs.map PyData.bool)) (q : Q (.d (.bool (bs.all id)))) : CW P (rAll P.K) [r] Q := fun C n H vs R _ g rx k => by
  cases rx with
  | cons a rr =>
    cases rr
    obtain ⟨p, ws, rfl, h2, ts⟩ := rep_l a e
    rw [bools_of ts] at h2
    exact ⟨p, bs, rfl, SqL.of h2, k _ _ H q (Keep.refl C H) g.dr (show DT H _ _ from .bl _) trivial⟩
end
/-! ### t[::-1] -/
section
variable {prog : Program} {w : World} {A : Around} {E : Value → Shared → Prop} {s : Shared}
theorem part_ {v : Value} {o : Option Int} {Q : Option Int → Shared → Prop} (p : IsPart v o) (h : Q o s) : wpAny (model prog w) A (Builtin.Slice.slicePartIndex v) Q E s := by
  cases p with
  | none => exact HT.slicePart_ .none h
  | int i t => exact HT.slicePart_ (.int i t) h
theorem places_back (n : Nat) : Builtin.Slice.slicePlaces ((n : Int) - 1) (-1) (-1) = n := by
  unfold Builtin.Slice.slicePlaces
  rw [if_neg (by decide)]
  by_cases h : n = 0
  · subst h
    decide
  · rw [if_pos (by omega)]
    have e : (n : Int) - 1 - -1 - 1 = (n : Int) - 1 := by omega
    rw [e, show (- -1 : Int) = 1 by decide, Int.ediv_one]
    omega
theorem pick_back (xs : Array Value) : (List.range xs.size).filterMap (fun (m : Nat) => xs[((xs.size : Int) - 1 + (m : Int) * (-1)).toNat]?) = xs.toList.reverse := by
  have e : (fun (m : Nat) => xs[((xs.size : Int) - 1 + (m : Int) * (-1)).toNat]?) = (fun i : Nat => xs[i]?) ∘ fun (k : Nat) => (((xs.size : Int) - 1 + (k : Int) * (-1)).toNat) := rfl
  rw [e, ← List.filterMap_map]
  have e2 : (List.range xs.size).map (fun (k : Nat) => (((xs.size : Int) - 1 + (k : Int) * (-1)).toNat)) = (List.range xs.size).map fun k => xs.size - 1 - k := by
    apply List.map_congr_left
    intro k hk
    have := List.mem_range.mp hk
    omega
  rw [e2, PySem.W.krv_range, List.filterMap_reverse, PySem.W.krv_all]
theorem getItem_back {t sl : Addr} {items : Array Value} {vs : Value} {Q : Value → Shared → Prop} (ht : IsTup s.heap t items) (hs : s.heap.IsSliceOf sl .none .none vs) (ps : IsPart vs (some (-1)))
    (h : Q (.ref s.heap.objs.size) { s with heap := s.heap.push { cls := .type "tuple", data := .seq items.toList.reverse.toArray } }) (hsz : items.size ≤ sizeLine) : wpAny (model prog w) A (getItem (.ref t) (.ref sl)) Q E s := by
  obtain ⟨ob, ho, hc, hd⟩ := id hs
  have hS : s.TypeIs (.ref sl) "slice" := ⟨ob, ho, hc⟩
  have fit : sizeOk (.seq items.toList.reverse.toArray) := by
    show items.toList.reverse.toArray.size ≤ sizeLine
    rw [List.size_toArray, List.length_reverse, Array.length_toList]
    exact hsz
  unfold getItem
  try with_reducible refine wpAny_holding ?_
  first | refine wpAny_bind (wpAny_pure ?_) | skip
  refine wpAny_bind (wpAny_sequenceKey ht.typeIs (by decide) ?_)
  refine wpAny_bind (wpAny_callSpecial?_slot (name := Str.ofString "__getitem__") ht.typeIs PyProof.Rows.slot_tuple_getitem
    (wpAny_call_entry PyProof.Rows.slot_tuple_getitem ht.typeIs entry_tuple_getitem ?_ (args_tuple_getitem _ _)))
  show wpAny _ _ (Builtin.Tuple.tupleItemsOf (.ref t) >>= _) _ _ s
  refine wpAny_bind (tupleItemsOf_ ht (wpAny_bind (wpAny_typeOf hS ?_)))
  rw [if_pos (by decide)]
  refine wpAny_bind ?_
  unfold Builtin.Slice.sliceApplied Builtin.Slice.sliceFields
  refine wpAny_bind (wpAny_bind (wpAny_field ho hd (x := .none) rfl (wpAny_bind (wpAny_field ho hd (x := .none) rfl (wpAny_bind (wpAny_field ho hd (x := vs) rfl (wpAny_pure ?_)))))))
  refine wpAny_bind (part_ ps ?_)
  show wpAny _ _ (if ((-1 : Int) == 0) = true then _ else _) _ _ s
  rw [if_neg (by decide)]
  refine wpAny_bind (part_ .none (wpAny_bind (part_ .none (wpAny_bind (wpAny_pure ?_)))))
  show wpAny _ _ (pure ((items.size : Int) - 1, (-1 : Int), Builtin.Slice.slicePlaces ((items.size : Int) - 1) (-1) (-1))) _ _ s
  rw [places_back]
  refine wpAny_pure ?_
  show wpAny _ _ (if (((items.size : Int) - 1) == 0 && (-1 : Int) == 1 && items.size == items.size) = true then _ else _) _ _ s
  rw [if_neg (by simp), pick_back]
  first
    | exact wpAny_bind (m := Builtin.Tuple.tupleExact _) (wpAny_newObj_type (wpAny_pure ⟨_, rfl, wpAny_pure h⟩) fit)
    | exact wpAny_bind (m := Builtin.Tuple.tupleExact _) (wpAny_newObj_type (wpAny_bind (wpAny_pure (wpAny_pure ⟨_, rfl, wpAny_pure h⟩))) fit)
    | exact wpAny_bind (wpAny_bind (m := Builtin.Tuple.tupleExact _) (wpAny_newObj_type (wpAny_pure (wpAny_pure ⟨_, rfl, wpAny_pure h⟩)) fit))
end
def tBackT (K : PySem.W.Frag) (te : TE) : TE := fun σ H Q => te σ H fun x H1 => ∃ a xs, x = .ref a ∧ SqT K H1 a xs ∧ ∀ p, H1 p = none → Q (.ref p) (upd H1 p (.tup xs.reverse))
theorem pe_revT {X : Cx} {e : Expr} {te : TE} {k : Nat} {p1 p2 p3 pos : Pos} (he : PE X e te) : PE X (.Subscript e (.Slice none none (some (.UnaryOp .USub (.Constant (.int 1) k p1) p2)) p3) pos) (tBackT X.K te) := by
  refine ⟨fun pins s σ H Q I h => Subscript_ (thn (he.run pins s σ H _ I h) fun v s1 ⟨x, H1, I1, r1, q1⟩ => ?_)⟩
  obtain ⟨a, xs, rfl, hx, q⟩ := q1
  cases r1
  have third : PO X (some (.UnaryOp .USub (.Constant (.int 1) k p1) p2)) (tPart (tUn (rU fun i => .int (-i)) (tC (.int 1)))) := po_some (pe_un un_neg pe_int)
  refine wpAny_Slice (thn (po_none.run pins s1 σ H1 (fun o H2 => o = none ∧ H2 = H1) I1 ⟨rfl, rfl⟩) fun v1 s2 ⟨_, H2, I2, part1, e1, e2⟩ => ?_)
  subst e1 e2
  refine thn (po_none.run pins s2 σ H2 (fun o H3 => o = none ∧ H3 = H2) I2 ⟨rfl, rfl⟩) fun v2 s3 ⟨_, H3, I3, part2, e1, e2⟩ => ?_
  subst e1 e2
  refine thn (third.run pins s3 σ H3 (fun o H4 => o = some (-1) ∧ H4 = H3) I3 ⟨1, rfl, -1, rfl, rfl, rfl⟩) fun v3 s4 ⟨_, H4, I4, part3, e1, e2⟩ => ?_
  subst e1 e2
  cases part1
  cases part2
  have I5 : Inv X pins σ H4 { s4 with heap := s4.heap.push { cls := .type "slice", data := .fields #[.none, .none, v3] } } := I4.kept (t' := s4.toks) fun b ob q => Heap.get?_push_of_some _ q
  obtain ⟨its, r, ht, hz⟩ := I5.tuple hx
  have hl := r.length
  show wpAny (model X.prog X.w) X.A (subscriptTail e (.Slice none none (some (.UnaryOp .USub (.Constant (.int 1) k p1) p2)) p3) (.ref a) (.ref s4.heap.objs.size)) (EP X pins σ Q) X.xe { s4 with heap := s4.heap.push { cls := .type "slice", data := .fields #[.none, .none, v3] } }
  refine tail_any (ops := [.ref a, .ref s4.heap.objs.size]) ht.typeIs PyProof.Rows.slot_tuple_getitem.lookup ?_ (by with_unfolding_all rfl)
  refine getItem_back ht (Heap.IsSliceOf.new _ .none .none v3) part3 ?_ (by rw [List.size_toArray]; omega)
  refine ⟨.ref _, _, I5.laid (t' := s4.toks) (o := .tup xs.reverse) (fun b ob q => Heap.get?_push_of_some _ q) (Nat.le_refl _) ?_, rfl, q _ (I5.hok.fresh (Nat.le_refl _))⟩
  exact ⟨by rw [List.length_reverse]; exact hz, _, r.reverse, IsTup.new _ _⟩
theorem ew_back {P : Pm} {G : List Rs} {n : Int} {te : TE} {Q : Rs → Int → Prop} (h : EW P te G n fun r n1 => ∃ ds, r = .d (.tuple ds) ∧ Q (.d (.tuple ds.reverse)) n1) : EW P (tBackT P.K te) G n Q := fun C σ H R hP g k =>
  h C σ H _ hP g fun r n1 v H1 q k1 d1 r1 _ => by
    obtain ⟨ds, rfl, q⟩ := q
    obtain ⟨a, vs, rfl, h2, ts⟩ := rep_t r1
    have g1 := g.keep k1 d1
    exact ⟨a, vs, rfl, SqT.of h2, new_tup g1.frm ts.reverse q fun z v H' q' k' d' r' f' => k z _ v H' q' (k1.trans k') d' r' (f'.back k1 g.frm.dr d1)⟩
end Dl
set_option Elab.async false
set_option linter.all false
set_option maxRecDepth 100000
set_option autoImplicit false
/-! Dl10: the list that is drawn from, made; texts of low signs; places of lists. -/
namespace Dl
open PySem PySem.Spec PyProof.Rows L2
def plainR : Rs → Bool
  | .d _ => true
  | .s => true
  | .u => true
  | _ => false
section
variable {P : Pm} {G : List Rs} {n : Int} {t : TS} {D : DE}
/-- draw = [script, 0] -/
theorem sw_mkdraw {i k : Nat} (hk : G[k]? = some .s) (hi : i < G.length) (hG : G.all plainR = true)
    (q : SW P t (G.set i .w) 0 { nx := fun _ _ => False, rt := fun r _ => resOk r = true ∧ D.rt r n }) : SW P (tSeq (tAsg (tLst (tCons (tVar k) (tCons (tC (.int 0)) tNil))) (gName i)) t) G n D := fun C σ H E hP g kk => by
  obtain ⟨v, hv, rv⟩ := g.rep k _ hk (fun z => nomatch z)
  have rv : v = .ref C.scr := rv
  subst rv
  refine ⟨.ref C.scr, hv, by show 2 ≤ sizeLine; decide, fun p hp => ?_⟩
  let C' : Cn := { C with H_0 := fun a => if C.dr = some a then H a else C.H_0 a, dr := some p }
  have keepH : ∀ a o, H a = some o → upd H p (.lst [.ref C.scr, .int 0]) a = some o := fun a o e => by
    rw [upd_ne (ne_of_none e hp)]
    exact e
  have h0 : ∀ a o, C'.H_0 a = some o → H a = some o := fun a o e => by
    by_cases z : C.dr = some a
    · have e : (if C.dr = some a then H a else C.H_0 a) = some o := e
      rw [if_pos z] at e
      exact e
    · have e : (if C.dr = some a then H a else C.H_0 a) = some o := e
      rw [if_neg z] at e
      exact g.frm.fr a o e z
  have f' : Frm C' 0 (upd H p (.lst [.ref C.scr, .int 0])) :=
    { fr := fun a o e _ => keepH a o (h0 a o e)
      sc := by
        rcases g.frm.scr_at with (h | ⟨o, h⟩) | h
        · by_cases z : C.dr = some C.scr
          · exact .inl (.inl (by show (if C.dr = some C.scr then H C.scr else C.H_0 C.scr) = _; rw [if_pos z]; exact h))
          · rcases g.frm.sc with (h' | ⟨o, h'⟩) | h'
            · exact .inl (.inl (by show (if C.dr = some C.scr then H C.scr else C.H_0 C.scr) = _; rw [if_neg z]; exact h'))
            · exact .inl (.inr ⟨o, by show (if C.dr = some C.scr then H C.scr else C.H_0 C.scr) = _; rw [if_neg z]; exact h'⟩)
            · exact .inr h'
        · by_cases z : C.dr = some C.scr
          · exact .inl (.inr ⟨o, by show (if C.dr = some C.scr then H C.scr else C.H_0 C.scr) = _; rw [if_pos z]; exact h⟩)
          · rcases g.frm.sc with (h' | ⟨o, h'⟩) | h'
            · exact .inl (.inl (by show (if C.dr = some C.scr then H C.scr else C.H_0 C.scr) = _; rw [if_neg z]; exact h'))
            · exact .inl (.inr ⟨o, by show (if C.dr = some C.scr then H C.scr else C.H_0 C.scr) = _; rw [if_neg z]; exact h'⟩)
            · exact .inr h'
        · exact .inr h
      dr := fun a e => by
        cases e
        exact upd_same
      sd := by
        rcases g.frm.scr_at with (h | ⟨o, h⟩) | h
        · exact .inl fun z => by
            have z : p = C.scr := Option.some.inj z
            rw [← z, hp] at h
            cases h
        · exact .inl fun z => by
            have z : p = C.scr := Option.some.inj z
            rw [← z, hp] at h
            cases h
        · exact .inr h }
  have g' : Good C' (G.set i .w) 0 (σ.set i (some (.ref p))) (upd H p (.lst [.ref C.scr, .int 0])) :=
    { frm := f'
      len := by rw [List.length_set, List.length_set]; exact g.len
      rep := fun j e hj z => by
        by_cases ij : i = j
        · subst ij
          rw [List.getElem?_set_self hi] at hj
          cases hj
          exact ⟨_, List.getElem?_set_self (by rw [g.len]; exact hi), p, rfl, rfl⟩
        · rw [List.getElem?_set_ne ij] at hj
          obtain ⟨x, h1, h2⟩ := g.rep j e hj z
          refine ⟨x, by rw [List.getElem?_set_ne ij]; exact h1, ?_⟩
          have pr : plainR e = true := List.all_eq_true.1 hG e (List.mem_of_getElem? hj)
          cases e with
          | d y => exact DT.mono (fun a xs e => keepH a _ e) h2
          | s => exact h2
          | u => exact trivial
          | l _ => cases pr
          | r _ => cases pr
          | w => cases pr
          | t _ => cases pr
          | x _ => cases pr
      own := fun j xs a hj _ => by
        by_cases ij : i = j
        · subst ij
          rw [List.getElem?_set_self hi] at hj
          cases hj
        · rw [List.getElem?_set_ne ij] at hj
          have pr := List.all_eq_true.1 hG _ (List.mem_of_getElem? hj)
          cases pr }
  refine q C' _ _ E hP g' ⟨fun _ _ _ _ d _ => False.elim d, fun r n1 v1 H1 hr f1 rp hn => ?_, fun _ _ _ _ d _ => False.elim d, fun _ _ _ _ d _ => False.elim d⟩
  have up : ∀ a o, H a = some o → C'.H_0 a = some o → H1 a = some o := fun a o e e' => f1.fr a o e' fun z => by
    cases z
    rw [hp] at e
    cases e
  have hd0 : ∀ q, C.dr = some q → C'.H_0 q = H q := fun q z => if_pos z
  have hd1 : ∀ q, C.dr ≠ some q → C'.H_0 q = C.H_0 q := fun q z => if_neg z
  refine kk.rt r n v1 H1 hr.2 ⟨fun a o e z => up a o (g.frm.fr a o e z) ((hd1 a z).trans e), g.frm.sc, fun a z => up a _ (g.frm.dr a z) ((hd0 a z).trans (g.frm.dr a z)), g.frm.sd⟩ ?_ fun xs e a ev => ?_
  · cases r with
    | d y => exact rp
    | l xs =>
      obtain ⟨a, vs, e1, e2, e3, e4⟩ := rp
      refine ⟨a, vs, e1, fun z => ?_, e3, e4⟩
      have := hn xs rfl a e1
      rw [hd0 a z, g.frm.dr a z] at this
      cases this
    | r _ => cases hr.1
    | w => cases hr.1
    | s => cases hr.1
    | t _ => cases hr.1
    | x _ => cases hr.1
    | u => cases hr.1
  · have h1 := hn xs e a ev
    by_cases z : C.dr = some a
    · rw [hd0 a z, g.frm.dr a z] at h1
      cases h1
    · exact (hd1 a z).symm.trans h1
end
/-! ### places -/
theorem atI_mem {α : Type} {xs : List α} {i : Int} (h0 : 0 ≤ i) (h1 : i < xs.length) : ∃ d, atI xs i = some d ∧ d ∈ xs := by
  have hl : i.toNat < xs.length := by omega
  refine ⟨xs[i.toNat], ?_, List.getElem_mem hl⟩
  unfold atI ixN
  rw [if_pos h0, if_pos h1]
  exact List.getElem?_eq_getElem hl
/-! ### texts of low signs -/
def Lo (s : Str) : Prop := ∀ c ∈ s.cps.toList, c < 128
theorem lo_ok {s : Str} (h : Lo s) : PyData.strOk s = true := by
  unfold PyData.strOk
  rw [Array.all_eq_true']
  intro c hc
  have := h c (Array.mem_toList_iff.2 hc)
  exact decide_eq_true (by omega)
theorem lo_app {s t : Str} (h : Lo s) (k : Lo t) : Lo (s ++ t) := fun c hc => by
  have hc : c ∈ TL.tl (s ++ t) := hc
  rw [TL.tl_append] at hc
  rcases List.mem_append.1 hc with hc | hc
  · exact h c hc
  · exact k c hc
theorem len_app (s t : Str) : (s ++ t).length = s.length + t.length := by
  have h : (TL.tl (s ++ t)).length = (TL.tl s ++ TL.tl t).length := by rw [TL.tl_append]
  rw [List.length_append] at h
  exact h
theorem lo_one {c : Nat} (h : c < 128) : Lo ⟨#[c]⟩ := fun d hd => by
  have : d = c := by simpa using hd
  omega
theorem mem_cut {s : Str} {lo hi : Option Int} {c : Nat} (h : c ∈ (cutS s lo hi).cps.toList) : c ∈ s.cps.toList := List.mem_of_mem_drop (List.mem_of_mem_take h)
theorem lo_cut {s : Str} (h : Lo s) (lo hi : Option Int) : Lo (cutS s lo hi) := fun c hc => h c (mem_cut hc)
theorem cut_len (s : Str) (lo hi : Option Int) : (cutS s lo hi).length ≤ s.length := by
  have e1 : (cutS s lo hi).length = ((s.cps.toList.drop (HT.sIx s.length 0 lo)).take (HT.sIx s.length s.length hi - HT.sIx s.length 0 lo)).length := rfl
  have e2 : s.length = s.cps.toList.length := rfl
  rw [e1, List.length_take, List.length_drop, e2]
  omega
section
variable {P : Pm} {G : List Rs} {n : Int} {te : TE} {Q : Rs → Int → Prop}
theorem ew_demote {j : Nat} {xs : List PyData} (h : G[j]? = some (.l xs)) (q : EW P te (G.set j (.r xs)) n Q) : EW P te G n Q := fun C σ H R hP g k => q C σ H R hP (g.demote h) k
theorem ew_demoteL {j : Nat} {xs : List PyData} {K : PySem.W.Frag} {g : TG} {tt : TT} {vs : List Nat} (h : G[j]? = some (.l xs)) (q : EW P (tLc (iList K (tVar j)) g tt te vs) (G.set j (.r xs)) n Q) : EW P (tLc (iList K (tVar j)) g tt te vs) G n Q := ew_demote h q
theorem sw_demoteF {j : Nat} {xs : List PyData} {K : PySem.W.Frag} {g : TG} {tb : TS} {D : DE} (h : G[j]? = some (.l xs)) (q : SW P (tFor (iList K (tVar j)) g tb) (G.set j (.r xs)) n D) : SW P (tFor (iList K (tVar j)) g tb) G n D := sw_demote h q
theorem sw_demoteE {j : Nat} {xs : List PyData} {K : PySem.W.Frag} {g : TG} {tb : TS} {D : DE} (h : G[j]? = some (.l xs)) (q : SW P (tFor (iEnum K (tCons (tVar j) tNil)) g tb) (G.set j (.r xs)) n D) : SW P (tFor (iEnum K (tCons (tVar j) tNil)) g tb) G n D := sw_demote h q
theorem ew_callWv {sp : DSpec} {E : XK} {k : Nat} {tr : TA} (hw : G[k]? = some .w) (h : EA P (tCons (tVar k) tr) G n fun rs n1 => (rs.all fun r => argOk (bor r)) = true ∧ sp (rs.map bor) n1 fun r n2 => resOk r = true ∧ Q r n2) : EW P (tCall (spOf P sp) [] E (tCons (tVar k) tr)) G n Q := ew_callW h
end
end Dl
set_option Elab.async false
set_option linter.all false
set_option maxRecDepth 100000
set_option autoImplicit false
/-! Dl11: one list under two names. -/
namespace Dl
open PySem PySem.Spec PyProof.Rows L2
section
variable {P : Pm} {G : List Rs} {n : Int} {D : DE}
theorem sw_aliasL {i j : Nat} {xs : List PyData} (hi : i < G.length) (h : G[j]? = some (.l xs)) (q : D.nx ((G.set j (.r xs)).set i (.r xs)) n) : SW P (tAsg (tVar j) (gName i)) G n D :=
  sw_demote h (sw_alias (by rw [List.length_set]; exact hi) (List.getElem?_set_self (List.getElem?_eq_some_iff.mp h).1) q)
end
end Dl
set_option Elab.async false
set_option linter.all false
set_option maxRecDepth 100000
set_option autoImplicit false
/-! Hd: the text by places; the head's facts by names (printed by gen_head2.py); what is handed to each def's theorem. -/
namespace Dd
open PySem PySem.Spec PyProof.Rows L2 Dl
/-! ### the text -/
def topS (i : Nat) : Stmt := PySem.Challenge.pw_deedrow_k36_whole_trees.main.body.getD i (.Pass ⟨0, 0, 0, 0⟩)
abbrev s_holds : Stmt := topS 5
abbrev s_count_beyond : Stmt := topS 6
abbrev s_state_behind : Stmt := topS 7
abbrev s_is_among : Stmt := topS 8
abbrev s_is_state : Stmt := topS 9
abbrev s_need_state : Stmt := topS 10
abbrev s_need_plan : Stmt := topS 12
abbrev s_reason_of : Stmt := topS 13
abbrev s_fault_of : Stmt := topS 14
abbrev s_need_facts : Stmt := topS 20
abbrev s_worlds_of : Stmt := topS 21
abbrev s_tree_of : Stmt := topS 22
abbrev s_kids_of : Stmt := topS 23
abbrev s_need_tree : Stmt := topS 24
abbrev s_need_states : Stmt := topS 25
abbrev s_failing : Stmt := topS 26
abbrev s_tree_fails : Stmt := topS 27
abbrev s_w_cell : Stmt := topS 29
abbrev s_w_mixed : Stmt := topS 30
abbrev s_w_next : Stmt := topS 31
abbrev s_w_names : Stmt := topS 32
abbrev s_w_holds : Stmt := topS 33
abbrev s_w_done : Stmt := topS 34
abbrev s_w_literal : Stmt := topS 35
abbrev s_w_condition : Stmt := topS 36
abbrev s_w_bits : Stmt := topS 37
abbrev s_w_deed : Stmt := topS 38
abbrev s_w_walk : Stmt := topS 39
abbrev s_w_world : Stmt := topS 40
abbrev s_w_deeds : Stmt := topS 41
abbrev s_w_fails : Stmt := topS 42
abbrev s_w_tree : Stmt := topS 43
abbrev s_w_grown : Stmt := topS 44
abbrev s_w_part : Stmt := topS 45
abbrev s_w_gone : Stmt := topS 46
abbrev s_w_is_long_right : Stmt := topS 47
abbrev s_law : Stmt := topS 48
/-! ### the head: facts by names, the run -/
def d_holds : He.DefD := ⟨("holds", none), "holds", "holds", defArgs s_holds, defBody s_holds, defScope s_holds, [], []⟩
def d_count_beyond : He.DefD := ⟨("count_beyond", none), "count_beyond", "count_beyond", defArgs s_count_beyond, defBody s_count_beyond, defScope s_count_beyond, [], []⟩
def d_state_behind : He.DefD := ⟨("state_behind", none), "state_behind", "state_behind", defArgs s_state_behind, defBody s_state_behind, defScope s_state_behind, [], []⟩
def d_is_among : He.DefD := ⟨("is_among", none), "is_among", "is_among", defArgs s_is_among, defBody s_is_among, defScope s_is_among, [], []⟩
def d_is_state : He.DefD := ⟨("is_state", none), "is_state", "is_state", defArgs s_is_state, defBody s_is_state, defScope s_is_state, [], []⟩
def d_need_state : He.DefD := ⟨("need_state", none), "need_state", "need_state", defArgs s_need_state, defBody s_need_state, defScope s_need_state, [], []⟩
def d_need_plan : He.DefD := ⟨("need_plan", none), "need_plan", "need_plan", defArgs s_need_plan, defBody s_need_plan, defScope s_need_plan, [.int 12], []⟩
def d_reason_of : He.DefD := ⟨("reason_of", none), "reason_of", "reason_of", defArgs s_reason_of, defBody s_reason_of, defScope s_reason_of, [], []⟩
def d_fault_of : He.DefD := ⟨("fault_of", none), "fault_of", "fault_of", defArgs s_fault_of, defBody s_fault_of, defScope s_fault_of, [], []⟩
def d_need_facts : He.DefD := ⟨("need_facts", none), "need_facts", "need_facts", defArgs s_need_facts, defBody s_need_facts, defScope s_need_facts, [], []⟩
def d_worlds_of : He.DefD := ⟨("worlds_of", none), "worlds_of", "worlds_of", defArgs s_worlds_of, defBody s_worlds_of, defScope s_worlds_of, [], []⟩
def d_tree_of : He.DefD := ⟨("tree_of", none), "tree_of", "tree_of", defArgs s_tree_of, defBody s_tree_of, defScope s_tree_of, [], []⟩
def d_kids_of : He.DefD := ⟨("kids_of", none), "kids_of", "kids_of", defArgs s_kids_of, defBody s_kids_of, defScope s_kids_of, [], []⟩
def d_need_tree : He.DefD := ⟨("need_tree", none), "need_tree", "need_tree", defArgs s_need_tree, defBody s_need_tree, defScope s_need_tree, [], []⟩
def d_need_states : He.DefD := ⟨("need_states", none), "need_states", "need_states", defArgs s_need_states, defBody s_need_states, defScope s_need_states, [], []⟩
def d_failing : He.DefD := ⟨("failing", none), "failing", "failing", defArgs s_failing, defBody s_failing, defScope s_failing, [], []⟩
def d_tree_fails : He.DefD := ⟨("tree_fails", none), "tree_fails", "tree_fails", defArgs s_tree_fails, defBody s_tree_fails, defScope s_tree_fails, [], []⟩
def d_w_cell : He.DefD := ⟨("_law_cell", none), "_law_cell", "_law_cell", defArgs s_w_cell, defBody s_w_cell, defScope s_w_cell, [], []⟩
def d_w_mixed : He.DefD := ⟨("_law_mixed", none), "_law_mixed", "_law_mixed", defArgs s_w_mixed, defBody s_w_mixed, defScope s_w_mixed, [], []⟩
def d_w_next : He.DefD := ⟨("_law_next", none), "_law_next", "_law_next", defArgs s_w_next, defBody s_w_next, defScope s_w_next, [], []⟩
def d_w_names : He.DefD := ⟨("_law_names", none), "_law_names", "_law_names", defArgs s_w_names, defBody s_w_names, defScope s_w_names, [], []⟩
def d_w_holds : He.DefD := ⟨("_law_holds", none), "_law_holds", "_law_holds", defArgs s_w_holds, defBody s_w_holds, defScope s_w_holds, [], []⟩
def d_w_done : He.DefD := ⟨("_law_done", none), "_law_done", "_law_done", defArgs s_w_done, defBody s_w_done, defScope s_w_done, [], []⟩
def d_w_literal : He.DefD := ⟨("_law_literal", none), "_law_literal", "_law_literal", defArgs s_w_literal, defBody s_w_literal, defScope s_w_literal, [], []⟩
def d_w_condition : He.DefD := ⟨("_law_condition", none), "_law_condition", "_law_condition", defArgs s_w_condition, defBody s_w_condition, defScope s_w_condition, [], []⟩
def d_w_bits : He.DefD := ⟨("_law_bits", none), "_law_bits", "_law_bits", defArgs s_w_bits, defBody s_w_bits, defScope s_w_bits, [], []⟩
def d_w_deed : He.DefD := ⟨("_law_deed", none), "_law_deed", "_law_deed", defArgs s_w_deed, defBody s_w_deed, defScope s_w_deed, [], []⟩
def d_w_walk : He.DefD := ⟨("_law_walk", none), "_law_walk", "_law_walk", defArgs s_w_walk, defBody s_w_walk, defScope s_w_walk, [], []⟩
def d_w_world : He.DefD := ⟨("_law_world", none), "_law_world", "_law_world", defArgs s_w_world, defBody s_w_world, defScope s_w_world, [], []⟩
def d_w_deeds : He.DefD := ⟨("_law_deeds", none), "_law_deeds", "_law_deeds", defArgs s_w_deeds, defBody s_w_deeds, defScope s_w_deeds, [], []⟩
def d_w_fails : He.DefD := ⟨("_law_fails", none), "_law_fails", "_law_fails", defArgs s_w_fails, defBody s_w_fails, defScope s_w_fails, [], []⟩
def d_w_tree : He.DefD := ⟨("_law_tree", none), "_law_tree", "_law_tree", defArgs s_w_tree, defBody s_w_tree, defScope s_w_tree, [], []⟩
def d_w_grown : He.DefD := ⟨("_law_grown", none), "_law_grown", "_law_grown", defArgs s_w_grown, defBody s_w_grown, defScope s_w_grown, [], []⟩
def d_w_part : He.DefD := ⟨("_law_part", none), "_law_part", "_law_part", defArgs s_w_part, defBody s_w_part, defScope s_w_part, [], []⟩
def d_w_gone : He.DefD := ⟨("_law_gone", none), "_law_gone", "_law_gone", defArgs s_w_gone, defBody s_w_gone, defScope s_w_gone, [], []⟩
def d_w_is_long_right : He.DefD := ⟨("_law_is_long_right", none), "_law_is_long_right", "_law_is_long_right", defArgs s_w_is_long_right, defBody s_w_is_long_right, defScope s_w_is_long_right, [], []⟩
def d_law : He.DefD := ⟨("law", none), "law", "law", defArgs s_law, defBody s_law, defScope s_law, [], []⟩
def fn : List He.DefD := [d_holds, d_count_beyond, d_state_behind, d_is_among, d_is_state, d_need_state, d_need_plan, d_reason_of, d_fault_of, d_need_facts, d_worlds_of, d_tree_of, d_kids_of, d_need_tree, d_need_states, d_failing, d_tree_fails, d_w_cell, d_w_mixed, d_w_next, d_w_names, d_w_holds, d_w_done, d_w_literal, d_w_condition, d_w_bits, d_w_deed, d_w_walk, d_w_world, d_w_deeds, d_w_fails, d_w_tree, d_w_grown, d_w_part, d_w_gone, d_w_is_long_right, d_law]
def fa : List He.Fa := [.glo "holds", .glo "count_beyond", .glo "state_behind", .glo "is_among", .glo "is_state", .glo "need_state", .glo "need_plan", .glo "reason_of", .glo "fault_of", .glo "need_facts", .glo "worlds_of", .glo "tree_of", .glo "kids_of", .glo "need_tree", .glo "need_states", .glo "failing", .glo "tree_fails", .glo "_law_cell", .glo "_law_mixed", .glo "_law_next", .glo "_law_names", .glo "_law_holds", .glo "_law_done", .glo "_law_literal", .glo "_law_condition", .glo "_law_bits", .glo "_law_deed", .glo "_law_walk", .glo "_law_world", .glo "_law_deeds", .glo "_law_fails", .glo "_law_tree", .glo "_law_grown", .glo "_law_part", .glo "_law_gone", .glo "_law_is_long_right", .glo "law", .free "all", .free "bool", .free "dict", .free "enumerate", .free "int", .free "isinstance", .free "len", .free "list", .free "min", .free "range", .free "repr", .free "reversed", .free "str", .free "tuple", .free "zip", .int "MOST_OPEN" 6, .int "MOST_DEEP" 20, .int "MOST_PARTS" 200, .int "MOST_WORLDS" 64]
/- facts by place: 0 .glo "holds", 1 .glo "count_beyond", 2 .glo "state_behind", 3 .glo "is_among", 4 .glo "is_state", 5 .glo "need_state", 6 .glo "need_plan", 7 .glo "reason_of", 8 .glo "fault_of", 9 .glo "need_facts", 10 .glo "worlds_of", 11 .glo "tree_of", 12 .glo "kids_of", 13 .glo "need_tree", 14 .glo "need_states", 15 .glo "failing", 16 .glo "tree_fails", 17 .glo "_law_cell", 18 .glo "_law_mixed", 19 .glo "_law_next", 20 .glo "_law_names", 21 .glo "_law_holds", 22 .glo "_law_done", 23 .glo "_law_literal", 24 .glo "_law_condition", 25 .glo "_law_bits", 26 .glo "_law_deed", 27 .glo "_law_walk", 28 .glo "_law_world", 29 .glo "_law_deeds", 30 .glo "_law_fails", 31 .glo "_law_tree", 32 .glo "_law_grown", 33 .glo "_law_part", 34 .glo "_law_gone", 35 .glo "_law_is_long_right", 36 .glo "law", 37 .free "all", 38 .free "bool", 39 .free "dict", 40 .free "enumerate", 41 .free "int", 42 .free "isinstance", 43 .free "len", 44 .free "list", 45 .free "min", 46 .free "range", 47 .free "repr", 48 .free "reversed", 49 .free "str", 50 .free "tuple", 51 .free "zip", 52 .int "MOST_OPEN" 6, 53 .int "MOST_DEEP" 20, 54 .int "MOST_PARTS" 200, 55 .int "MOST_WORLDS" 64 -/
def loose : List Str := (["DeedError", "BadPlan", "BadState", "holds", "count_beyond", "state_behind", "is_among", "is_state", "need_state", "need_plan", "reason_of", "fault_of", "MOST_OPEN", "MOST_DEEP", "MOST_PARTS", "MOST_WORLDS", "need_facts", "worlds_of", "tree_of", "kids_of"] : List Str) ++ (["need_tree", "need_states", "failing", "tree_fails", "_law_cell", "_law_mixed", "_law_next", "_law_names", "_law_holds", "_law_done", "_law_literal", "_law_condition", "_law_bits", "_law_deed", "_law_walk", "_law_world", "_law_deeds", "_law_fails", "_law_tree", "_law_grown"] : List Str) ++ (["_law_part", "_law_gone", "_law_is_long_right"] : List Str)
/-- what the top has left -/
structure Bs (K : PySem.W.Frag) (mg : Str → Option Value) : Prop where
  says : He.SaysD fa fn K
  glo : ∀ (i : Nat) (x : Str), fa[i]? = some (.glo x) → mg x = some (.ref (He.ga K x))
  free : ∀ (i : Nat) (x : Str), fa[i]? = some (.free x) → mg x = none
  int : ∀ (i : Nat) (x : Str) (z : Int), fa[i]? = some (.int x z) → ∃ t, mg x = some (.int z t)
theorem bs_mk {K : PySem.W.Frag} {mg : Str → Option Value} {h : Heap} (X : K.In h) (G : h.Ns mainGlobals mg) (c : He.SaysD fa fn K) : Bs K mg :=
  ⟨c, fun i x e => He.glo_ok X G (c.fact i e), fun i x e => He.free_ok X G (c.fact i e), fun i x z e => He.int_ok X G (c.fact i e)⟩
/-- a def that keeps its promise, as callers want it -/
structure Fn (P : Program) (w : World) (K : PySem.W.Frag) (mg : Str → Option Value) (base : Heap) (ns : List Int) (x : Str) (k : Nat) (ps : List Str) (dvs : List V) (sp : DSpec) : Prop where
  ex : ∃ f fd ds, FnOk P w K mg base CX0 k f fd ps (spOf ⟨K, ns, w⟩ sp) ∧ mg x = some (.ref f) ∧ PySem.W.keepIn K (.ref f) = true ∧ Vals dvs ds ∧ Binds K fd ps ds
theorem Fn.mono {P : Program} {w : World} {K : PySem.W.Frag} {mg : Str → Option Value} {base : Heap} {ns : List Int} {x : Str} {j k : Nat} {ps : List Str} {dvs : List V} {sp : DSpec} (F : Fn P w K mg base ns x j ps dvs sp) (h : j ≤ k) : Fn P w K mg base ns x k ps dvs sp := by
  obtain ⟨f, fd, ds, a, b⟩ := F.ex
  exact ⟨f, fd, ds, a.mono h, b⟩
theorem pe_fn {X : Cx} {ns : List Int} {x : Str} {k : Nat} {ps : List Str} {dvs : List V} {sp : DSpec} {p pos : Pos} {e : Expr} {es : List Expr} {t : TA} (F : Fn X.prog X.w X.K X.mg X.base ns x k ps dvs sp) (hr : Room k X.A) (hg : Gl X x)
    (ha : PA X (e :: es) t) (hdb : (x == ("__debug__" : Str)) = false := by decide) (he : starEach (e :: es) X.env = (false, eval e X.env) :: starEach es X.env := by rfl) (hpl : (backTo pos (starEach es X.env)).any (·.1) = false := by rfl) :
    PE X (.Call (.Name x p) (e :: es) [] pos) (tCall (spOf ⟨X.K, ns, X.w⟩ sp) dvs E0 t) := by
  obtain ⟨f, fd, ds, a, b, c, d, g⟩ := F.ex
  exact pe_call a hr hg b c g d pass0 ha hdb he hpl
/-- a module's constant -/
theorem pe_k {X : Cx} {x : Str} {z : Int} {p : Pos} (hg : Gl X x) (hm : ∃ t, X.mg x = some (.int z t)) (hd : (x == ("__debug__" : Str)) = false := by decide) : PE X (.Name x p) (tC (.int z)) := by
  obtain ⟨t, e⟩ := hm
  exact pe_glob hg e ⟨t, rfl⟩ hd
end Dd
set_option Elab.async false
set_option linter.all false
set_option maxRecDepth 100000
set_option autoImplicit false
/-! Md1: conditions, states, deeds, worlds, trees as Lean data, and as the program has them; what holds, what a deed makes, in plain Lean. -/
namespace Dd
open PySem
inductive Cond where
  | tru | fls | fact (k : Nat) | least (k : Nat) (n : Int) | nt (c : Cond) | an (a b : Cond) | orr (a b : Cond)
namespace Cond
def enc : Cond → PyData
  | .tru => .tuple [.str "true"]
  | .fls => .tuple [.str "false"]
  | .fact k => .tuple [.str "fact", .int (k : Nat)]
  | .least k n => .tuple [.str "least", .int (k : Nat), .int n]
  | .nt c => .tuple [.str "not", enc c]
  | .an a b => .tuple [.str "and", enc a, enc b]
  | .orr a b => .tuple [.str "or", enc a, enc b]
def dep : Cond → Nat
  | .nt c => dep c + 1
  | .an a b => max (dep a) (dep b) + 1
  | .orr a b => max (dep a) (dep b) + 1
  | _ => 1
/-- counts are there -/
def ok (m : Nat) : Cond → Prop
  | .least k _ => k < m
  | .nt c => ok m c
  | .an a b => ok m a ∧ ok m b
  | .orr a b => ok m a ∧ ok m b
  | _ => True
theorem dep_pos (c : Cond) : 1 ≤ c.dep := by
  cases c <;> simp [dep]
end Cond
structure Sta where
  bits : Nat
  am : List Int
namespace Sta
abbrev ams (s : Sta) : PyData := .tuple (s.am.map PyData.int)
def enc (s : Sta) : PyData := .tuple [.int (s.bits : Nat), s.ams]
end Sta
def holds : Cond → Sta → Bool
  | .tru, _ => true
  | .fls, _ => false
  | .fact k, s => s.bits.testBit k
  | .least k n, s => decide (n ≤ s.am.getD k 0)
  | .nt c, s => !holds c s
  | .an a b, s => holds a s && holds b s
  | .orr a b, s => holds a s || holds b s
/-- bits of numbers -/
theorem shr_one (b k : Nat) : Builtin.bitAnd ((b : Int) / 2 ^ k) 1 = if b.testBit k then 1 else 0 := by
  rw [PyProof.Rows.bitAnd_m1]
  have e : ((b : Int) / 2 ^ k) = ((b / 2 ^ k : Nat) : Int) := by
    rw [Int.natCast_ediv, Int.natCast_pow]
    rfl
  rw [e]
  have e2 : b.testBit k = decide (b / 2 ^ k % 2 = 1) := by
    rw [Nat.testBit_eq_decide_div_mod_eq]
  rw [e2]
  by_cases h : b / 2 ^ k % 2 = 1
  · rw [decide_eq_true h, if_pos rfl]
    omega
  · rw [decide_eq_false h, if_neg Bool.false_ne_true]
    omega
end Dd
set_option Elab.async false
set_option linter.all false
set_option maxRecDepth 100000
set_option autoImplicit false
/-! Md2: deeds, worlds, trees; what the program and the law say of them, in plain Lean; loops and comprehensions by invariants. -/
namespace Dl
open PySem PySem.Spec PyProof.Rows L2
section
variable {P : Pm} {p : Pat} {tb : TS} {D : DE} {G : List Rs} {n : Int}
theorem loop_inv (I : List PyData → List Rs → Int → Prop) (h0 : ∀ G n, I [] G n → D.nx G n)
    (h1 : ∀ d ds G n, I (d :: ds) G n → p.lt G.length ∧ ∃ G1, p.put d G = some G1 ∧ SW P tb G1 n { D with nx := I ds, ct := I ds, bk := D.nx }) : ∀ ds G n, I ds G n → LoopW P p tb D ds G n := by
  have mono : ∀ {t : TS} {G : List Rs} {n : Int} {D1 D2 : DE}, (∀ G n, D1.nx G n → D2.nx G n) → (∀ r n, D1.rt r n → D2.rt r n) → (∀ G n, D1.bk G n → D2.bk G n) → (∀ G n, D1.ct G n → D2.ct G n) → SW P t G n D1 → SW P t G n D2 :=
    fun a b c d h C σ H E hP g k => h C σ H E hP g ⟨fun G n σ H x => k.nx G n σ H (a _ _ x), fun r n v H x => k.rt r n v H (b _ _ x), fun G n σ H x => k.bk G n σ H (c _ _ x), fun G n σ H x => k.ct G n σ H (d _ _ x)⟩
  intro ds
  induction ds with
  | nil => exact fun G n h => h0 G n h
  | cons d ds ih =>
    intro G n h
    obtain ⟨a, G1, b, c⟩ := h1 d ds G n h
    exact ⟨a, G1, b, mono (D1 := { D with nx := I ds, ct := I ds, bk := D.nx }) (fun G n x => ih G n x) (fun _ _ x => x) (fun _ _ x => x) (fun G n x => ih G n x) c⟩
theorem while_inv {tc : TT} (I : Nat → List Rs → Int → Prop)
    (h1 : ∀ m G n, I m G n → TW P tc G n fun b n1 => Br b (∃ m', m = m' + 1 ∧ SW P tb G n1 { D with nx := I m', ct := I m', bk := D.nx }) (D.nx G n1)) : ∀ m G n, I m G n → SW P (tWhile tc tb) G n D := by
  have mono : ∀ {t : TS} {G : List Rs} {n : Int} {D1 D2 : DE}, (∀ G n, D1.nx G n → D2.nx G n) → (∀ r n, D1.rt r n → D2.rt r n) → (∀ G n, D1.bk G n → D2.bk G n) → (∀ G n, D1.ct G n → D2.ct G n) → SW P t G n D1 → SW P t G n D2 :=
    fun a b c d h C σ H E hP g k => h C σ H E hP g ⟨fun G n σ H x => k.nx G n σ H (a _ _ x), fun r n v H x => k.rt r n v H (b _ _ x), fun G n σ H x => k.bk G n σ H (c _ _ x), fun G n σ H x => k.ct G n σ H (d _ _ x)⟩
  have tmono : ∀ {t : TT} {G : List Rs} {n : Int} {Q1 Q2 : Bool → Int → Prop}, (∀ b n, Q1 b n → Q2 b n) → TW P t G n Q1 → TW P t G n Q2 := fun a h C σ H R hP g k => h C σ H R hP g fun b n H x => k b n H (a _ _ x)
  have w : ∀ m G n, I m G n → WhileW P tc tb D (m + 1) G n := by
    intro m
    induction m with
    | zero =>
      intro G n h
      refine tmono (fun b n1 q => ?_) (h1 0 G n h)
      cases b with
      | true => obtain ⟨m', e, _⟩ := q; omega
      | false => exact q
    | succ m ih =>
      intro G n h
      refine tmono (fun b n1 q => ?_) (h1 (m + 1) G n h)
      cases b with
      | true =>
        obtain ⟨m', e, q⟩ := q
        obtain rfl : m = m' := by omega
        exact mono (D1 := { D with nx := I m, ct := I m, bk := D.nx }) (fun G n x => ih G n x) (fun _ _ x => x) (fun _ _ x => x) (fun G n x => ih G n x) q
      | false => exact q
  exact fun m G n h => sw_while (m + 1) (w m G n h)
theorem tw_mono {t : TT} {Q1 Q2 : Bool → Int → Prop} (a : ∀ b n, Q1 b n → Q2 b n) (h : TW P t G n Q1) : TW P t G n Q2 := fun C σ H R hP g k => h C σ H R hP g fun b n H x => k b n H (a _ _ x)
theorem ew_mono {t : TE} {Q1 Q2 : Rs → Int → Prop} (a : ∀ r n, Q1 r n → Q2 r n) (h : EW P t G n Q1) : EW P t G n Q2 := fun C σ H R hP g k => h C σ H R hP g fun r n v H x => k r n v H (a _ _ x)
/-- a comprehension that draws nothing: those that pass, each turned -/
theorem comp_fm {tt : TT} {te : TE} {vs : List Nat} {Q : List PyData → Int → Prop} (g : PyData → Bool) (f : PyData → PyData) (ds acc : List PyData)
    (h : ∀ d ∈ ds, p.lt (wipeG G vs).length ∧ ∃ G1, p.put d (wipeG G vs) = some G1 ∧ TW P tt G1 n fun b n1 => n1 = n ∧ b = g d ∧ (b = true → EW P te G1 n1 fun r n2 => n2 = n ∧ r = .d (f d)))
    (q : Q (acc ++ (ds.filter g).map f) n) : CompW P p tt te G vs Q ds acc n := by
  induction ds generalizing acc with
  | nil =>
    show Q acc n
    simpa using q
  | cons d ds ih =>
    obtain ⟨a, G1, b, c⟩ := h d (List.mem_cons_self ..)
    refine ⟨a, G1, b, tw_mono (fun b n1 z => ?_) c⟩
    obtain ⟨rfl, e, z⟩ := z
    cases b with
    | true =>
      refine ew_mono (fun r n2 y => ?_) (z rfl)
      obtain ⟨rfl, rfl⟩ := y
      refine ⟨_, rfl, ih _ (fun x hx => h x (List.mem_cons_of_mem _ hx)) ?_⟩
      rw [List.filter_cons, if_pos e.symm, List.map_cons] at q
      simpa using q
    | false =>
      refine ih _ (fun x hx => h x (List.mem_cons_of_mem _ hx)) ?_
      rw [List.filter_cons, if_neg (by rw [← e]; exact Bool.false_ne_true)] at q
      exact q
theorem comp_fmE {α : Type} {tt : TT} {te : TE} {vs : List Nat} {Q : List PyData → Int → Prop} (e : α → PyData) (g : α → Bool) (f : α → PyData) (xs : List α) (acc : List PyData)
    (h : ∀ x ∈ xs, p.lt (wipeG G vs).length ∧ ∃ G1, p.put (e x) (wipeG G vs) = some G1 ∧ TW P tt G1 n fun b n1 => n1 = n ∧ b = g x ∧ (b = true → EW P te G1 n1 fun r n2 => n2 = n ∧ r = .d (f x)))
    (q : Q (acc ++ (xs.filter g).map f) n) : CompW P p tt te G vs Q (xs.map e) acc n := by
  induction xs generalizing acc with
  | nil =>
    show Q acc n
    simpa using q
  | cons d ds ih =>
    obtain ⟨a, G1, b, c⟩ := h d (List.mem_cons_self ..)
    refine ⟨a, G1, b, tw_mono (fun b n1 z => ?_) c⟩
    obtain ⟨rfl, e, z⟩ := z
    cases b with
    | true =>
      refine ew_mono (fun r n2 y => ?_) (z rfl)
      obtain ⟨rfl, rfl⟩ := y
      refine ⟨_, rfl, ih _ (fun x hx => h x (List.mem_cons_of_mem _ hx)) ?_⟩
      rw [List.filter_cons, if_pos e.symm, List.map_cons] at q
      simpa using q
    | false =>
      refine ih _ (fun x hx => h x (List.mem_cons_of_mem _ hx)) ?_
      rw [List.filter_cons, if_neg (by rw [← e]; exact Bool.false_ne_true)] at q
      exact q
theorem comp_mapE {α : Type} {te : TE} {vs : List Nat} {Q : List PyData → Int → Prop} (e : α → PyData) (f : α → PyData) (xs : List α) (acc : List PyData)
    (h : ∀ x ∈ xs, p.lt (wipeG G vs).length ∧ ∃ G1, p.put (e x) (wipeG G vs) = some G1 ∧ EW P te G1 n fun r n2 => n2 = n ∧ r = .d (f x))
    (q : Q (acc ++ xs.map f) n) : CompW P p tYes te G vs Q (xs.map e) acc n := by
  refine comp_fmE e (fun _ => true) f xs acc (fun x hx => ?_) (by rw [List.filter_eq_self.2 fun _ _ => rfl]; exact q)
  obtain ⟨a, G1, b, c⟩ := h x hx
  exact ⟨a, G1, b, tw_yes ⟨rfl, rfl, fun _ => c⟩⟩
theorem comp_nil {tt : TT} {te : TE} {vs : List Nat} {acc : List PyData} {Q : List PyData → Int → Prop} (q : Q acc n) : CompW P p tt te G vs Q [] acc n := q
theorem comp_mapD {te : TE} {vs : List Nat} {Q : List PyData → Int → Prop} (f : PyData → PyData) (ds acc : List PyData)
    (h : ∀ d ∈ ds, p.lt (wipeG G vs).length ∧ ∃ G1, p.put d (wipeG G vs) = some G1 ∧ EW P te G1 n fun r n2 => n2 = n ∧ r = .d (f d))
    (q : Q (acc ++ ds.map f) n) : CompW P p tYes te G vs Q ds acc n := by
  refine comp_fm (fun _ => true) f ds acc (fun x hx => ?_) (by rw [List.filter_eq_self.2 fun _ _ => rfl]; exact q)
  obtain ⟨a, G1, b, c⟩ := h x hx
  exact ⟨a, G1, b, tw_yes ⟨rfl, rfl, fun _ => c⟩⟩
/-- a comprehension whose items are not told, may draw -/
theorem comp_all {te : TE} {vs : List Nat} {Q : List PyData → Int → Prop} (c : Nat) (V : PyData → PyData → Prop) (B : Int) : ∀ (ds acc : List PyData) (n : Int), n + c * ds.length ≤ B →
    (∀ d ∈ ds, ∀ n1, n ≤ n1 → n1 + c ≤ B → p.lt (wipeG G vs).length ∧ ∃ G1, p.put d (wipeG G vs) = some G1 ∧ EW P te G1 n1 fun r n2 => n1 ≤ n2 ∧ n2 ≤ n1 + c ∧ ∃ x, r = .d x ∧ V d x) →
    (∀ xs n', Paired V ds xs → n ≤ n' → n' ≤ n + c * ds.length → Q (acc ++ xs) n') → CompW P p tYes te G vs Q ds acc n
  | [], acc, n, _, _, q => by
    have := q [] n .nil (Int.le_refl _) (by simp)
    rw [List.append_nil] at this
    exact this
  | d :: ds, acc, n, hb, h, q => by
    have ee : (c : Int) * ((d :: ds).length : Nat) = c * ds.length + c := by rw [List.length_cons, Int.natCast_add, Int.mul_add]; simp
    have ep : 0 ≤ (c : Int) * (ds.length : Nat) := Int.mul_nonneg (by omega) (by omega)
    obtain ⟨a, G1, b, z⟩ := h d (List.mem_cons_self ..) n (Int.le_refl _) (by omega)
    refine ⟨a, G1, b, tw_yes (br_t rfl (ew_mono (fun r n2 y => ?_) z))⟩
    obtain ⟨l1, l2, x, rfl, v⟩ := y
    refine ⟨x, rfl, comp_all c V B ds _ n2 (by omega) (fun d' hd n1 m1 m2 => h d' (List.mem_cons_of_mem _ hd) n1 (by omega) m2) fun xs n' pp m1 m2 => ?_⟩
    rw [List.append_assoc]
    exact q (x :: xs) n' (.cons v pp) (by omega) (by omega)
variable {t u : TS} {wi : TI} {i j : Nat}
theorem sw_for1 (h : WI P wi G n fun ds n1 => LoopW P (.nm i) tb D ds G n1) : SW P (tFor wi (gName i) tb) G n D := sw_for (p := .nm i) h
theorem sw_for2 (h : WI P wi G n fun ds n1 => LoopW P (.p2 i j) tb D ds G n1) : SW P (tFor wi (gTup P.K 2 (gCons (gName i) (gCons (gName j) gNil))) tb) G n D := sw_for (p := .p2 i j) h
theorem ew_lc1 {tt : TT} {te : TE} {vs : List Nat} {R : Rs → Int → Prop} (hp : vs.elem i = true) (h : WI P wi G n fun ds n1 => ds.length ≤ 100000 ∧ CompW P (.nm i) tt te G vs (fun acc n2 => R (.l acc) n2) ds [] n1) : EW P (tLc wi (gName i) tt te vs) G n R :=
  ew_lc (p := .nm i) (fun x hx => by rw [List.mem_singleton.1 hx]; exact List.elem_iff.1 hp) h
theorem ew_lc2 {tt : TT} {te : TE} {vs : List Nat} {R : Rs → Int → Prop} (hp : vs.elem i = true) (hq : vs.elem j = true) (h : WI P wi G n fun ds n1 => ds.length ≤ 100000 ∧ CompW P (.p2 i j) tt te G vs (fun acc n2 => R (.l acc) n2) ds [] n1) : EW P (tLc wi (gTup P.K 2 (gCons (gName i) (gCons (gName j) gNil))) tt te vs) G n R :=
  ew_lc (p := .p2 i j) (fun x hx => by
    rcases List.mem_cons.1 hx with rfl | hx
    · exact List.elem_iff.1 hp
    · rw [List.mem_singleton.1 hx]; exact List.elem_iff.1 hq) h
end
end Dl
namespace Dd
open PySem PySem.Spec PyProof.Rows L2 Dl
theorem ixN_nat {n i : Nat} (h : i < n) : ixN n (i : Nat) = some i := by
  unfold ixN
  rw [if_pos (by omega), if_pos (by omega), Int.toNat_natCast]
theorem atI_nat {α : Type} {xs : List α} {i : Nat} {a : α} (h : xs[i]? = some a) : atI xs (i : Nat) = some a := by
  have hl : i < xs.length := by
    rcases Nat.lt_or_ge i xs.length with x | x
    · exact x
    · rw [List.getElem?_eq_none x] at h; cases h
  unfold atI
  rw [ixN_nat hl]
  exact h
theorem bitAnd_nat (a b : Nat) : Builtin.bitAnd (a : Nat) (b : Nat) = ((a &&& b : Nat) : Int) := by
  unfold Builtin.bitAnd
  rw [decide_eq_true (by omega : (0 : Int) ≤ (a : Nat)), decide_eq_true (by omega : (0 : Int) ≤ (b : Nat))]
  rfl
theorem bitNot_nat (a : Nat) : (Builtin.bitNot (Builtin.bitNot (a : Nat))) = (a : Nat) := by
  unfold Builtin.bitNot
  omega
theorem bitOr_nat (a b : Nat) : Builtin.bitOr (a : Nat) (b : Nat) = ((a ||| b : Nat) : Int) := by
  unfold Builtin.bitOr Builtin.bitAnd
  rw [decide_eq_false (by unfold Builtin.bitNot; omega : ¬ (0 : Int) ≤ Builtin.bitNot (a : Nat)), decide_eq_false (by unfold Builtin.bitNot; omega : ¬ (0 : Int) ≤ Builtin.bitNot (b : Nat))]
  simp only [bitNot_nat, Int.toNat_natCast]
theorem and_le_or (a b : Nat) : a &&& b ≤ a ||| b := Nat.le_trans Nat.and_le_left Nat.left_le_or
theorem bitXor_nat (a b : Nat) : Builtin.bitXor (a : Nat) (b : Nat) = (((a ||| b) - (a &&& b) : Nat) : Int) := by
  unfold Builtin.bitXor
  rw [bitOr_nat, bitAnd_nat]
  have := and_le_or a b
  omega
theorem bitAnd_notN (a b : Nat) : Builtin.bitAnd (a : Nat) (Builtin.bitNot (b : Nat)) = ((a - (a &&& b) : Nat) : Int) := by
  unfold Builtin.bitAnd
  rw [decide_eq_true (by omega : (0 : Int) ≤ (a : Nat)), decide_eq_false (by unfold Builtin.bitNot; omega : ¬ (0 : Int) ≤ Builtin.bitNot (b : Nat))]
  simp only [bitNot_nat, Int.toNat_natCast]
  have : a &&& b ≤ a := Nat.and_le_left
  omega
theorem or_and_l (a b : Nat) : a ||| (a &&& b) = a := by
  apply Nat.eq_of_testBit_eq
  intro i
  rw [Nat.testBit_or, Nat.testBit_and]
  cases a.testBit i <;> cases b.testBit i <;> rfl
theorem and_and_l (a b : Nat) : a &&& (a &&& b) = a &&& b := by
  apply Nat.eq_of_testBit_eq
  intro i
  rw [Nat.testBit_and, Nat.testBit_and]
  cases a.testBit i <;> cases b.testBit i <;> rfl
theorem bits_behind (x d m : Nat) : Builtin.bitOr (Builtin.bitXor (x : Nat) (Builtin.bitAnd (x : Nat) (d : Nat))) (m : Nat) = (((x - (x &&& d)) ||| m : Nat) : Int) := by
  rw [bitAnd_nat, bitXor_nat, bitOr_nat, or_and_l, and_and_l]
theorem bits_done (x d m : Nat) : Builtin.bitOr (Builtin.bitAnd (x : Nat) (Builtin.bitNot (d : Nat))) (m : Nat) = (((x - (x &&& d)) ||| m : Nat) : Int) := by
  rw [bitAnd_notN, bitOr_nat]
theorem pow_cast (f : Nat) : (1 : Int) * 2 ^ ((f : Nat) : Int).toNat = ((2 ^ f : Nat) : Int) := by
  rw [Int.toNat_natCast, Int.one_mul, Int.natCast_pow]
  rfl
theorem kit_ii : kitB "int" "int" = some true := by decide +kernel
theorem kit_ib : kitB "int" "bool" = some false := by decide +kernel
theorem kit_tt : kitB "tuple" "tuple" = some true := by decide +kernel
theorem kit_ss : kitB "str" "str" = some true := by decide +kernel
theorem fnok_vac {P : Program} {w : World} {K : PySem.W.Frag} {mg : Str → Option Value} {base : Heap} {ns : List Int} {k : Nat} {f : Addr} {fd : FuncData} {ps : List Str} {sp : DSpec} (h : ∀ rs n Q, ¬ sp rs n Q) : FnOk P w K mg base CX0 k f fd ps (spOf ⟨K, ns, w⟩ sp) :=
  ⟨fun vs H Q E z => by
    obtain ⟨C, n, rs, Qd, _, _, _, _, _, z, _⟩ := z
    exact absurd z (h _ _ _), fun A outer s H args us vs Q E _ _ _ _ z => by
    obtain ⟨C, n, rs, Qd, _, _, _, _, _, z, _⟩ := z
    exact absurd z (h _ _ _)⟩
/-! ### deeds, counts, worlds -/
def mvD (m : Nat × Int) : PyData := .tuple [.int (m.1 : Nat), .int m.2]
structure Deed where
  lab : PyData
  need : Cond
  makes : Nat
  drops : Nat
  moves : List (Nat × Int)
  cost : Int
  span : Int
abbrev Deed.mvs (d : Deed) : PyData := .tuple (d.moves.map mvD)
def Deed.enc (d : Deed) : PyData := .tuple [d.lab, d.need.enc, .int (d.makes : Nat), .int (d.drops : Nat), d.mvs, .int d.cost, .int d.span]
structure Cnt where
  atom : PyData
  lo : Int
  hi : Int
def Cnt.enc (c : Cnt) : PyData := .tuple [c.atom, .int c.lo, .int c.hi]
structure Wd where
  atoms : List PyData
  counts : List Cnt
  deeds : List Deed
  start : Sta
  wish : Cond
namespace Wd
abbrev cnts (W : Wd) : PyData := .tuple (W.counts.map Cnt.enc)
abbrev dds (W : Wd) : PyData := .tuple (W.deeds.map Deed.enc)
def enc (W : Wd) : PyData := .tuple [.tuple W.atoms, W.cnts, W.dds, W.start.enc, W.wish.enc]
end Wd
/-- amount at a place, bounds at a place -/
def amt (am : List Int) (i : Nat) : Int := am.getD i 0
def cnt (cs : List Cnt) (i : Nat) : Cnt := cs.getD i ⟨.none, 0, 0⟩
theorem amt_at {am : List Int} {i : Nat} (h : i < am.length) : am[i]? = some (amt am i) := by
  rw [amt, List.getD_eq_getElem?_getD, List.getElem?_eq_getElem h]
  rfl
theorem cnt_at {cs : List Cnt} {i : Nat} (h : i < cs.length) : cs[i]? = some (cnt cs i) := by
  rw [cnt, List.getD_eq_getElem?_getD, List.getElem?_eq_getElem h]
  rfl
theorem amt_atD {am : List Int} {i : Nat} (h : i < am.length) : atI (am.map PyData.int) (i : Nat) = some (.int (amt am i)) := atI_nat (by rw [List.getElem?_map, amt_at h]; rfl)
theorem cnt_atD {cs : List Cnt} {i : Nat} (h : i < cs.length) : atI (cs.map Cnt.enc) (i : Nat) = some (cnt cs i).enc := atI_nat (by rw [List.getElem?_map, cnt_at h]; rfl)
/-- the first place that goes beyond -/
def fits (cs : List Cnt) (am : List Int) (m : Nat × Int) : Bool := decide ((cnt cs m.1).lo ≤ amt am m.1 + m.2) && decide (amt am m.1 + m.2 ≤ (cnt cs m.1).hi)
def beyond (cs : List Cnt) (am : List Int) : List (Nat × Int) → Option Nat
  | [] => none
  | m :: ms => if fits cs am m = true then beyond cs am ms else some m.1
def moved : List (Nat × Int) → List Int → List Int
  | [], am => am
  | m :: ms, am => moved ms (am.set m.1 (amt am m.1 + m.2))
theorem moved_len : ∀ (ms : List (Nat × Int)) (am : List Int), (moved ms am).length = am.length
  | [], am => rfl
  | m :: ms, am => by rw [moved, moved_len ms, List.length_set]
def behind (d : Deed) (s : Sta) : Sta := ⟨(s.bits - (s.bits &&& d.drops)) ||| d.makes, moved d.moves s.am⟩
def reason : Cond → Sta → Cond
  | .an a b, s => if holds a s = true then reason b s else reason a s
  | c, _ => c
def optN : Option Nat → PyData
  | none => .none
  | some k => .int (k : Nat)
def fault (cs : List Cnt) (d : Deed) (s : Sta) : PyData :=
  if holds d.need s = true then (match beyond cs s.am d.moves with | none => .none | some k => .tuple [.str "beyond", .int (k : Nat)]) else (reason d.need s).enc
/-- what holds of deeds, worlds -/
structure LabOk (l : PyData) : Prop where
  tup : ∃ ks, l = .tuple ks
  key : keyD l = true
  dep : l.depth ≤ 8
structure DeedOk (m : Nat) (d : Deed) : Prop where
  lab : LabOk d.lab
  need : d.need.ok m
  ndep : d.need.dep ≤ 8
  mv : ∀ x ∈ d.moves, x.1 < m
  mlen : d.moves.length ≤ 1000
  apart : d.moves.Pairwise fun a b => a.1 ≠ b.1
structure WdOk (W : Wd) : Prop where
  deeds : ∀ d ∈ W.deeds, DeedOk W.counts.length d
  start : W.start.am.length = W.counts.length
  wish : W.wish.ok W.counts.length
  wdep : W.wish.dep ≤ 8
  atoms : W.atoms.length ≤ 12
  cnts : W.counts.length ≤ 3
  dds : W.deeds.length ≤ 10
  st0 : W.start.bits < 2 ^ W.atoms.length
  st1 : ∀ i, i < W.counts.length → (cnt W.counts i).lo ≤ amt W.start.am i ∧ amt W.start.am i ≤ (cnt W.counts i).hi
/-- a state of a world -/
structure StaIn (W : Wd) (s : Sta) : Prop where
  len : s.am.length = W.counts.length
  bits : s.bits < 2 ^ W.atoms.length
  am : ∀ i, i < W.counts.length → (cnt W.counts i).lo ≤ amt s.am i ∧ amt s.am i ≤ (cnt W.counts i).hi
/-! ### trees -/
inductive Tree where
  | done | doo (l : PyData) (t : Tree) | ask (k : Nat) (a b : Tree)
namespace Tree
def enc : Tree → PyData
  | .done => .tuple [.str "done"]
  | .doo l t => .tuple [.str "do", l, enc t]
  | .ask k a b => .tuple [.str "ask", .int (k : Nat), enc a, enc b]
def deep : Tree → Nat
  | .done => 1
  | .doo _ t => deep t + 1
  | .ask _ a b => max (deep a) (deep b) + 1
def size : Tree → Nat
  | .done => 1
  | .doo _ t => size t + 1
  | .ask _ a b => size a + size b + 1
def ok (W : Wd) : Tree → Prop
  | .done => True
  | .doo l t => (∃ d ∈ W.deeds, d.lab = l) ∧ ok W t
  | .ask k a b => k < W.atoms.length ∧ ok W a ∧ ok W b
end Tree
def prs (W : Wd) : List (PyData × PyData) := W.deeds.map fun d => (d.lab, d.enc)
open Classical in
/-- the last deed of a label -/
noncomputable def find : List Deed → PyData → Option Deed
  | [], _ => none
  | d :: ds, l => match find ds l with
    | some e => some e
    | none => if d.lab = l then some d else none
def bitD (s : Sta) (k : Nat) : PyData := .int (if s.bits.testBit k then 1 else 0)
noncomputable def run (W : Wd) : Tree → Sta → List PyData → Option (List PyData × PyData)
  | .done, s, ps => if holds W.wish s = true then none else some (ps, (reason W.wish s).enc)
  | .doo l t, s, ps => match find W.deeds l with
    | none => none
    | some d => if isNone (fault W.counts d s) = true then run W t (behind d s) (ps ++ [.tuple [.str "do", l]]) else some (ps, fault W.counts d s)
  | .ask k a b, s, ps => if s.bits.testBit k then run W a s (ps ++ [.tuple [.str "ask", .int (k : Nat), .int 1]]) else run W b s (ps ++ [.tuple [.str "ask", .int (k : Nat), .int 0]])
def failD (f : Sta) : Option (List PyData × PyData) → PyData
  | none => .none
  | some (p, x) => .tuple [f.enc, .tuple p, x]
/-- how a tree fails from a state, from the first of many -/
noncomputable def failing (W : Wd) (t : Tree) (s : Sta) : PyData := failD s (run W t s [])
noncomputable def fails (W : Wd) (t : Tree) : List Sta → PyData
  | [] => .none
  | s :: ss => if isNone (failing W t s) = true then fails W t ss else failing W t s
/-! ### keys -/
mutual
theorem eqvK_refl : ∀ d : PyData, keyD d = true → PyData.eqv d d = true
  | .str x, _ => by
    simp only [PyData.eqv]
    exact beq_self_eq_true x
  | .tuple xs, h => by
    simp only [PyData.eqv]
    exact eqvKs_refl xs (by simpa only [keyD] using h)
  | .none, h => by simp only [keyD] at h; cases h
  | .bool _, h => by simp only [keyD] at h; cases h
  | .int _, h => by simp only [keyD] at h; cases h
  | .list _, h => by simp only [keyD] at h; cases h
  | .dict _, h => by simp only [keyD] at h; cases h
theorem eqvKs_refl : ∀ ds : List PyData, keysD ds = true → PyData.eqvAll ds ds = true
  | [], _ => by simp only [PyData.eqvAll]
  | d :: ds, h => by
    simp only [keysD, Bool.and_eq_true] at h
    simp only [PyData.eqvAll, eqvK_refl d h.1, eqvKs_refl ds h.2, Bool.and_self]
end
theorem find_mem : ∀ {ds : List Deed} {l : PyData} {x : Deed}, find ds l = some x → x ∈ ds ∧ x.lab = l
  | [], l, x, h => by
    rw [find] at h
    cases h
  | d :: ds, l, x, h => by
    rw [find] at h
    cases e : find ds l with
    | some y =>
      rw [e] at h
      cases h
      exact ⟨List.mem_cons_of_mem _ (find_mem e).1, (find_mem e).2⟩
    | none =>
      rw [e] at h
      by_cases hl : d.lab = l
      · simp only [if_pos hl] at h
        cases h
        exact ⟨List.mem_cons_self .., hl⟩
      · simp only [if_neg hl] at h
        cases h
theorem find_some : ∀ {ds : List Deed} {l : PyData}, (∃ d ∈ ds, d.lab = l) → ∃ d, find ds l = some d ∧ d ∈ ds ∧ d.lab = l
  | [], l, h => by
    obtain ⟨d, hd, _⟩ := h
    cases hd
  | d :: ds, l, h => by
    cases e : find (d :: ds) l with
    | some x => exact ⟨x, rfl, find_mem e⟩
    | none =>
      rw [find] at e
      cases e1 : find ds l with
      | some y =>
        rw [e1] at e
        cases e
      | none =>
        rw [e1] at e
        obtain ⟨z, hz, hl⟩ := h
        rcases List.mem_cons.1 hz with rfl | hz
        · simp only [if_pos hl] at e
          cases e
        · obtain ⟨_, e2, _⟩ := find_some ⟨z, hz, hl⟩
          rw [e1] at e2
          cases e2
theorem look_find : ∀ {ds : List Deed} {l : PyData}, (∀ d ∈ ds, keyD d.lab = true) → keyD l = true → look (ds.map fun d => (d.lab, d.enc)) l = (find ds l).map Deed.enc
  | [], l, _, _ => rfl
  | d :: ds, l, h, hl => by
    rw [List.map_cons, look, look_find (fun d hd => h d (List.mem_cons_of_mem _ hd)) hl, find]
    cases e : find ds l with
    | some x => rfl
    | none =>
      by_cases hd : d.lab = l
      · simp only [Option.map_none, if_pos hd, if_pos (congrArg nk hd), Option.map_some]
      · have : ¬ nk d.lab = nk l := fun z => hd (nk_inj (h d (List.mem_cons_self ..)) hl z)
        simp only [Option.map_none, if_neg hd, if_neg this]
theorem WdOk.look {W : Wd} (O : WdOk W) {l : PyData} (h : ∃ d ∈ W.deeds, d.lab = l) : ∃ d, find W.deeds l = some d ∧ d ∈ W.deeds ∧ d.lab = l ∧ Dl.look (prs W) l = some d.enc := by
  obtain ⟨d, e, hm, hl⟩ := find_some h
  refine ⟨d, e, hm, hl, ?_⟩
  rw [prs, look_find (fun d hd => (O.deeds d hd).lab.key) (by rw [← hl]; exact (O.deeds d hm).lab.key), e]
  rfl
/-- the labels' tuple forms, for the walk -/
theorem WdOk.labs {W : Wd} (O : WdOk W) {l : PyData} (h : ∃ d ∈ W.deeds, d.lab = l) : LabOk l := by
  obtain ⟨d, hm, rfl⟩ := h
  exact (O.deeds d hm).lab
theorem any_self {ks : List PyData} {l : PyData} (h : l ∈ ks) (k : keyD l = true) : (ks.any fun z => PyData.eqv z l) = true := List.any_eq_true.2 ⟨l, h, eqvK_refl l k⟩
theorem prs_pr (W : Wd) : W.deeds.map (fun d => PyData.tuple [d.lab, d.enc]) = (prs W).map Dl.prD := by
  unfold prs
  rw [List.map_map]
  rfl
theorem WdOk.prs {W : Wd} (O : WdOk W) : ∀ kv ∈ prs W, keyD kv.1 = true ∧ kv.1.depth ≤ 8 ∧ ∃ ks, kv.1 = .tuple ks := fun kv h => by
  obtain ⟨d, hd, rfl⟩ := List.mem_map.1 h
  have L := (O.deeds d hd).lab
  exact ⟨L.key, L.dep, L.tup⟩
def treeOf : List PyData → Tree
  | [] => .done
  | l :: r => .doo l (treeOf r)
def kids : Tree → List Tree
  | .done => []
  | .doo _ t => [t]
  | .ask _ a b => [a, b]
end Dd
set_option Elab.async false
set_option linter.all false
set_option maxRecDepth 100000
set_option autoImplicit false
/-! Md3: what the law says, in plain Lean. -/
namespace Dd
open PySem PySem.Spec PyProof.Rows L2 Dl
def done (cs : List Cnt) (d : Deed) (s : Sta) : Option Sta := if holds d.need s = true then (if beyond cs s.am d.moves = none then some (behind d s) else none) else none
def staD : Option Sta → PyData
  | none => .none
  | some s => s.enc
def partD (c : Cond) (s : Sta) : PyData := if holds c s = true then .none else (reason c s).enc
theorem cond_some (c : Cond) : isNone c.enc = false := by cases c <;> rfl
theorem done_fault {cs : List Cnt} {d : Deed} {s : Sta} (h : isNone (fault cs d s) = true) : done cs d s = some (behind d s) := by
  unfold fault at h
  unfold done
  by_cases hh : holds d.need s = true
  · rw [if_pos hh] at h ⊢
    cases e : beyond cs s.am d.moves with
    | none => rw [if_pos rfl]
    | some k => rw [e] at h; cases h
  · rw [if_neg hh, cond_some] at h
    cases h
theorem done_none {cs : List Cnt} {d : Deed} {s : Sta} (h : isNone (fault cs d s) = false) : done cs d s = none := by
  unfold fault at h
  unfold done
  by_cases hh : holds d.need s = true
  · rw [if_pos hh] at h ⊢
    cases e : beyond cs s.am d.moves with
    | none => rw [e] at h; cases h
    | some k => rw [if_neg (fun z => nomatch z)]
  · rw [if_neg hh]
theorem amt_set_ne {am : List Int} {i j : Nat} {z : Int} (h : i ≠ j) : amt (am.set i z) j = amt am j := by
  unfold amt
  rw [List.getD_eq_getElem?_getD, List.getD_eq_getElem?_getD, List.getElem?_set_ne h]
theorem amt_set_eq {am : List Int} {i : Nat} {z : Int} (h : i < am.length) : amt (am.set i z) i = z := by
  unfold amt
  rw [List.getD_eq_getElem?_getD, List.getElem?_set_self h]
  rfl
/-- the places beyond, as the law lists them -/
theorem beyond_filter (cs : List Cnt) (am : List Int) : ∀ ms : List (Nat × Int), beyond cs am ms = ((ms.filter fun m => !fits cs am m).map (·.1)).head?
  | [] => rfl
  | m :: ms => by
    rw [beyond, List.filter_cons]
    cases e : fits cs am m with
    | true =>
      rw [if_pos rfl, beyond_filter cs am ms]
      rfl
    | false =>
      rw [if_neg Bool.false_ne_true]
      rfl
noncomputable def deedsOf (W : Wd) (ls : List PyData) : List Deed := ls.filterMap (find W.deeds)
noncomputable def okRun (W : Wd) : List Deed → Sta → Bool
  | [], s => holds W.wish s
  | d :: ds, s => match done W.counts d s with
    | none => false
    | some s' => okRun W ds s'
theorem run_ok (W : Wd) : ∀ (ls : List PyData) (s : Sta) (ps : List PyData), (∀ l ∈ ls, ∃ d ∈ W.deeds, d.lab = l) → (run W (treeOf ls) s ps).isNone = okRun W (ls.filterMap (find W.deeds)) s
  | [], s, ps, _ => by
    rw [treeOf, run, List.filterMap_nil, okRun]
    cases holds W.wish s <;> rfl
  | l :: ls, s, ps, h => by
    obtain ⟨d, e, _⟩ := find_some (h l (List.mem_cons_self ..))
    rw [treeOf, run, List.filterMap_cons, e]
    simp only [okRun]
    cases ef : isNone (fault W.counts d s) with
    | true =>
      rw [if_pos rfl, run_ok W ls _ _ (fun l hl => h l (List.mem_cons_of_mem _ hl)), done_fault ef]
    | false =>
      rw [if_neg Bool.false_ne_true, done_none ef]
      rfl
theorem failing_ok {W : Wd} {ls : List PyData} {s : Sta} (h : ∀ l ∈ ls, ∃ d ∈ W.deeds, d.lab = l) : isNone (failing W (treeOf ls) s) = okRun W (deedsOf W ls) s := by
  rw [failing, deedsOf, ← run_ok W ls s [] h]
  cases run W (treeOf ls) s [] with
  | none => rfl
  | some p => rfl
theorem deeds_map {W : Wd} : ∀ {ls : List PyData}, (∀ l ∈ ls, ∃ d ∈ W.deeds, d.lab = l) → ls.map (fun l => ((find W.deeds l).map Deed.enc).getD .none) = (deedsOf W ls).map Deed.enc
  | [], _ => rfl
  | l :: ls, h => by
    obtain ⟨d, e, _⟩ := find_some (h l (List.mem_cons_self ..))
    rw [List.map_cons, deeds_map (fun l hl => h l (List.mem_cons_of_mem _ hl)), deedsOf, deedsOf, List.filterMap_cons, e]
    rfl
end Dd
set_option Elab.async false
set_option linter.all false
set_option maxRecDepth 100000
set_option autoImplicit false
set_option maxHeartbeats 1000000
/-! Pa: holds of the program. -/
namespace Dd
open PySem PySem.Spec PyProof.Rows L2 Dl
local macro_rules | `(tactic| walk_at "dx.var") => `(tactic| ((with_reducible show EW _ (tVar _) _ _ _); first
  | (refine ew_varD rfl ?_) | (refine ew_varR rfl ?_) | (refine ew_varL rfl ?_) | (refine ew_varW rfl ?_) | (refine ew_varS rfl ?_) | (refine ew_varT rfl ?_)))
local macro_rules | `(tactic| walk_at "dx.ew") => `(tactic| first
  | (walk_at "dx.var")
  | (with_reducible refine ew_int ?_) | ((with_reducible refine ew_str ?hh ?_); (case hh => decide +kernel)) | (with_reducible refine ew_bl ?_) | (with_reducible refine ew_non ?_)
  | ((with_reducible show EW _ (tOp (rIxA _ _) (tVar _) (tC (.int 0))) _ _ _); refine ew_w0 rfl ?_) | ((with_reducible show EW _ (tOp (rIxA _ _) (tVar _) (tC (.int 1))) _ _ _); refine ew_w1 rfl ?_)
  | (with_reducible refine ew_op ?_) | (with_reducible refine ew_un ?_) | (with_reducible refine ew_tupE ?_) | (with_reducible refine ew_lstE ?_) | (with_reducible refine ew_isi ?_) | (with_reducible refine ew_cb ?_)
  | (with_reducible refine ew_andV ?_) | (with_reducible refine ew_orV ?_) | (with_reducible refine ew_notV ?_) | (with_reducible refine ew_call ?_) | (with_reducible refine ew_callD ?_) | ((with_reducible refine ew_lc1 ?hq ?_); (case hq => exact rfl)) | ((with_reducible refine ew_lc2 ?hq ?hq2 ?_); (case hq => exact rfl); (case hq2 => exact rfl)) | (with_reducible refine ew_if ?_) | (with_reducible refine ew_chain ?_) | (with_reducible refine ew_sl ?_) | (with_reducible refine ew_bmS ?_) | (with_reducible refine ew_back ?_))
local macro_rules | `(tactic| walk_at "dx.ow") => `(tactic| first
  | (with_reducible refine ow_addI ?_) | (with_reducible refine ow_eqI ?_) | (with_reducible refine ow_eqS ?_) | (with_reducible refine ow_neI ?_) | (with_reducible refine ow_neS ?_) | (with_reducible refine ow_neN (.inr rfl) (.inl rfl) ?_) | (with_reducible refine ow_eqN (.inr rfl) (.inl rfl) ?_) | ((with_reducible refine ow_inT ?hmm ?_); (case hmm => exact Nat.le_of_ble_eq_true rfl)) | (with_reducible refine ow_isN ?_) | (with_reducible refine ow_noN ?_)
  | (with_reducible refine ow_intB ?_) | (with_reducible refine ow_int ?_) | ((with_reducible refine ow_intC ?hc ?_); (case hc => first | decide | omega))
  | ((with_reducible show OW _ (rIxA _ _) _ _ _); refine ow_ixT rfl ?_))
local macro_rules | `(tactic| walk_at "dx.sw") => `(tactic| first
  | (walk_at "dx.for") | (with_reducible refine sw_seq ?_) | (with_reducible refine sw_next ?_) | ((with_reducible show SW _ (tDrop (tCall _ _ _ _)) _ _ _); refine sw_expr ?_) | (with_reducible refine sw_cont ?_) | (with_reducible refine sw_ret ?_) | (with_reducible refine sw_retN ?_) | (with_reducible refine sw_if ?_)
  | ((with_reducible show SW _ (tAsg (tBM0 _ _ rPop (tVar _)) _) _ _ _); refine sw_pop2 (Nat.le_of_ble_eq_true rfl) (Nat.le_of_ble_eq_true rfl) rfl ?_; dsimp only [List.set])
  | ((with_reducible show SW _ (tDrop (tBM _ _ rExtend _ _)) _ _ _); refine sw_extend rfl ?_) | ((with_reducible show SW _ (tDrop (tBM0 _ _ rReverse _)) _ _ _); refine sw_reverse rfl ?_)
  | ((with_reducible show SW _ (tAsg _ (gSub (tVar _) _ _)) _ _ _); first | (refine sw_draw rfl ?_) | (refine sw_store rfl ?_))
  | ((with_reducible refine sw_set ?hi ?_); (case hi => exact Nat.le_of_ble_eq_true rfl))
  | ((with_reducible refine sw_par ?hi ?hj ?_); (case hi => exact Nat.le_of_ble_eq_true rfl); (case hj => exact Nat.le_of_ble_eq_true rfl); dsimp only [List.set])
  | ((with_reducible refine sw_asg2 ?hi ?hj ?_); (case hi => exact Nat.le_of_ble_eq_true rfl); (case hj => exact Nat.le_of_ble_eq_true rfl); dsimp only [List.set])
  | ((with_reducible refine sw_asg3 ?hi ?hj ?hk ?_); (case hi => exact Nat.le_of_ble_eq_true rfl); (case hj => exact Nat.le_of_ble_eq_true rfl); (case hk => exact Nat.le_of_ble_eq_true rfl); dsimp only [List.set])
  | ((with_reducible refine sw_aug (a := ?aa) ?hi ?_); (case hi => exact rfl); dsimp only [List.set]))
local macro_rules | `(tactic| walk_at "dx.for") => `(tactic| first
  | (with_reducible refine sw_for1 ?_) | (with_reducible refine sw_for2 ?_))
local macro_rules | `(tactic| walk_at "dx.misc") => `(tactic| first
  | (with_reducible refine ea_cons ?_) | (with_reducible refine ea_nil ?_)
  | (with_reducible refine tw_test ?_) | (with_reducible refine tw_B ?_) | (with_reducible refine tw_and ?_) | (with_reducible refine tw_or ?_) | (with_reducible refine tw_not ?_) | (with_reducible refine tw_yes ?_)
  | (with_reducible refine wi_tup ?_) | (with_reducible refine wi_enumT ?_) | (with_reducible refine wi_zipT ?_) | (with_reducible refine wi_rev ?_) | (with_reducible refine wi_range ?_) | (refine wi_enum rfl ?_) | (refine wi_var rfl ?_) | ((with_reducible show WI _ (iList _ (tCall _ _ _ _)) _ _ _); refine wi_new ?_) | (with_reducible refine uw_int ?_) | (with_reducible refine op_no ?_) | (with_reducible refine op_int ?_)
  | ((with_reducible show Br (decide ((_ : Int) < _)) _ _); first | (refine br_t rfl ?_) | (refine br_f rfl ?_)) | ((with_reducible show Br (decide ((_ : Int) ≤ _)) _ _); first | (refine br_t rfl ?_) | (refine br_f rfl ?_)) | ((with_reducible show Br (decide ((_ : Int) = _)) _ _); first | (refine br_t rfl ?_) | (refine br_f rfl ?_)) | ((with_reducible show Br (!decide ((_ : Int) = _)) _ _); first | (refine br_t rfl ?_) | (refine br_f rfl ?_))
  | ((with_reducible show Br (isNone _) _ _); first | (refine br_t rfl ?_) | (refine br_f rfl ?_)) | ((with_reducible show Br (!isNone _) _ _); first | (refine br_t rfl ?_) | (refine br_f rfl ?_))
  | ((with_reducible show Br true _ _); refine br_t rfl ?_) | ((with_reducible show Br false _ _); refine br_f rfl ?_) | (refine br_t (by decide +kernel) ?_) | (refine br_f (by decide +kernel) ?_)
  | (with_reducible refine cw_lenT ?_) | (with_reducible refine cw_listT ?_) | (with_reducible refine cw_tupL (.inr rfl) ?_) | (with_reducible refine cw_tupL (.inl rfl) ?_) | (with_reducible refine cw_lenL (.inr rfl) ?_) | (with_reducible refine cw_lenL (.inl rfl) ?_) | (with_reducible refine cw_lenW ?_)
  | (refine ⟨_, _, rfl, kit_ii, ?_⟩) | (refine ⟨_, _, rfl, kit_ib, ?_⟩) | (refine ⟨_, _, rfl, kit_tt, ?_⟩) | (refine ⟨_, _, rfl, kit_ss, ?_⟩)
  | (with_reducible refine ⟨_, rfl, ?_⟩) | (refine ⟨_, rfl, Nat.le_of_ble_eq_true rfl, ?_⟩) | (with_reducible refine ⟨_, _, rfl, ?_⟩) | (with_reducible refine ⟨_, _, _, rfl, ?_⟩) | ((with_reducible refine ⟨(fun _ z => nomatch z), ?_⟩); dsimp only [List.set]) | (refine ⟨_, _, rfl, by decide +kernel, ?_⟩) | (refine ⟨Nat.le_of_ble_eq_true rfl, ?_⟩) | (with_reducible refine ⟨rfl, ?_⟩) | dsimp only)
local macro_rules | `(tactic| walk_at "dx") => `(tactic| first
  | ((with_reducible show EW _ _ _ _ _); walk_at "dx.ew") | ((with_reducible show SW _ _ _ _ _); walk_at "dx.sw") | ((with_reducible show OW _ _ _ _ _); walk_at "dx.ow") | (walk_at "dx.misc"))
local macro_rules | `(tactic| walk_at "go") => `(tactic| repeat walk_at "dx")
local macro_rules | `(tactic| walk_at "put1") => `(tactic| (refine ⟨Nat.le_of_ble_eq_true rfl, _, rfl, ?_⟩; dsimp only [wipeG, List.map, List.set]))
local macro_rules | `(tactic| walk_at "put2") => `(tactic| (refine ⟨⟨Nat.le_of_ble_eq_true rfl, Nat.le_of_ble_eq_true rfl⟩, _, rfl, ?_⟩; dsimp only [wipeG, List.map, List.set]))
def sp_holds (m : Nat) : DSpec := fun rs n Q => ∃ (c : Cond) (s : Sta), rs = [.d c.enc, .d s.enc] ∧ c.dep ≤ m ∧ c.ok s.am.length ∧ Q (.d (.bool (holds c s))) n
section
variable {P : Program} {w : World} {K : PySem.W.Frag} {mg : Str → Option Value} {base : Heap} {ns : List Int} {k m : Nat}
theorem vac_holds {sp : DSpec} (B : Bs K mg) (h : ∀ rs n Q, ¬ sp rs n Q) : Fn P w K mg base ns "holds" k ["condition", "state"] [] sp := by
  obtain ⟨fd, F⟩ := B.says.def_ 0 (d := d_holds) rfl
  exact ⟨_, fd, _, fnok_vac h, B.glo 0 _ rfl, F.kp, .nil, F.bindsN fun _ _ _ _ _ _ us hl => match us, hl with | [_, _], _ => rfl⟩
def nm_holds : List Str := ["condition", "state", "kind"]
theorem sc_holds : FnScope nm_holds ["condition", "state"] (defScope s_holds) := ⟨rfl, rfl, rfl, by decide +kernel, rfl, by decide +kernel, by decide +kernel⟩
/- slots of holds: 0 condition, 1 state, 2 kind -/
theorem ok_holds (B : Bs K mg) (H_holds : Fn P w K mg base ns "holds" k ["condition", "state"] [] (sp_holds m)) : Fn P w K mg base ns "holds" (k + 1) ["condition", "state"] [] (sp_holds (m + 1)) := by
  obtain ⟨fd, F⟩ := B.says.def_ 0 (d := d_holds) rfl
  refine ⟨_, fd, _, okD (ns := ns) F sc_holds (fun rs n Q h => ?len) (fun cdv A outer s H E hr => ⟨_, PSs.nox (pss_cons (ps_set (i := 2) sc_holds.nd rfl (.inl rfl) (pe_ix (ixA hr.units) (pv 0) pe_int (fun _ _ => rfl)))
      (pss_cons (ps_if (pt_cmpR (op_eqM hr.units) (pv 2) pe_str (nomark _)) (pss_one (ps_ret (pe_cmpR (op_eqM hr.units) (pe_op op_and (pe_op op_shr (pe_ix (ixA hr.units) (pv 1) pe_int (fun _ _ => rfl)) (pe_ix (ixA hr.units) (pv 0) pe_int (fun _ _ => rfl))) pe_int) pe_int (nomark _)))) pss_nil)
      (pss_cons (ps_if (pt_cmpR (op_eqM hr.units) (pv 2) pe_str (nomark _)) (pss_one (ps_ret (pe_cmpR op_ge (pe_ix (ixA hr.units) (pe_ix (ixA hr.units) (pv 1) pe_int (fun _ _ => rfl)) (pe_ix (ixA hr.units) (pv 0) pe_int (fun _ _ => rfl)) (fun _ _ => rfl)) (pe_ix (ixA hr.units) (pv 0) pe_int (fun _ _ => rfl)) (nomark _)))) pss_nil)
      (pss_cons (ps_if (pt_cmpR (op_eqM hr.units) (pv 2) pe_str (nomark _)) (pss_one (ps_ret (pe_not (pe_fn H_holds (hr.mono (by omega)) (by rfl) (pa_cons (pe_ix (ixA hr.units) (pv 0) pe_int (fun _ _ => rfl)) (pa_cons (pv 1) pa_nil)))))) pss_nil)
      (pss_cons (ps_if (pt_cmpR (op_eqM hr.units) (pv 2) pe_str (nomark _)) (pss_one (ps_ret (pe_and (pe_fn H_holds (hr.mono (by omega)) (by rfl) (pa_cons (pe_ix (ixA hr.units) (pv 0) pe_int (fun _ _ => rfl)) (pa_cons (pv 1) pa_nil))) (pe_one (pe_fn H_holds (hr.mono (by omega)) (by rfl) (pa_cons (pe_ix (ixA hr.units) (pv 0) pe_int (fun _ _ => rfl)) (pa_cons (pv 1) pa_nil))))))) pss_nil)
      (pss_cons (ps_if (pt_cmpR (op_eqM hr.units) (pv 2) pe_str (nomark _)) (pss_one (ps_ret (pe_or (pe_fn H_holds (hr.mono (by omega)) (by rfl) (pa_cons (pe_ix (ixA hr.units) (pv 0) pe_int (fun _ _ => rfl)) (pa_cons (pv 1) pa_nil))) (pe_one (pe_fn H_holds (hr.mono (by omega)) (by rfl) (pa_cons (pe_ix (ixA hr.units) (pv 0) pe_int (fun _ _ => rfl)) (pa_cons (pv 1) pa_nil))))))) pss_nil)
      (pss_one (ps_ret (pe_cmpR (op_eqM hr.units) (pv 2) pe_str (nomark _)))))))))), fun rs n Q h => ?walk⟩), B.glo 0 _ rfl, F.kp, .nil, F.bindsN fun _ _ _ _ _ _ us hl => match us, hl with | [_, _], _ => rfl⟩
  case len =>
    obtain ⟨c, s, rfl, _⟩ := h
    rfl
  case walk =>
    obtain ⟨c, s, rfl, hd, ho, hQ⟩ := h
    cases c with
    | tru =>
      show SW _ _ [.d (Cond.enc .tru), .d s.enc, .u] n _
      dsimp only [cxOf]
      walk_at "go"
      rw [decide_eq_true rfl]; exact hQ
    | fls =>
      show SW _ _ [.d (Cond.enc .fls), .d s.enc, .u] n _
      dsimp only [cxOf]
      walk_at "go"
      rw [decide_eq_false (by decide +kernel)]; exact hQ
    | fact i =>
      show SW _ _ [.d (Cond.enc (.fact i)), .d s.enc, .u] n _
      dsimp only [cxOf]
      walk_at "go"
      rw [Int.toNat_natCast, shr_one]
      simp only [holds] at hQ
      cases e : s.bits.testBit i <;> rw [e] at hQ <;> exact hQ
    | least i z =>
      show SW _ _ [.d (Cond.enc (.least i z)), .d s.enc, .u] n _
      dsimp only [cxOf]
      walk_at "go"
      have e : (s.am.map PyData.int)[i]? = some (.int (s.am.getD i 0)) := by
        rw [List.getElem?_map, List.getD_eq_getElem?_getD, List.getElem?_eq_getElem (show i < s.am.length from ho)]
        rfl
      refine ow_ixT (atI_nat e) ?_
      walk_at "go"
      exact hQ
    | nt c =>
      show SW _ _ [.d (Cond.enc (.nt c)), .d s.enc, .u] n _
      dsimp only [cxOf]
      walk_at "go"
      refine ⟨c, s, rfl, Nat.le_of_succ_le_succ hd, ho, ?_⟩
      walk_at "go"
      exact hQ
    | an a b =>
      show SW _ _ [.d (Cond.enc (.an a b)), .d s.enc, .u] n _
      dsimp only [cxOf]
      have hd' : max a.dep b.dep + 1 ≤ m + 1 := hd
      walk_at "go"
      refine ⟨a, s, rfl, by omega, ho.1, ?_⟩
      walk_at "go"
      simp only [holds] at hQ
      cases e : holds a s with
      | true =>
        refine br_t rfl ?_
        walk_at "go"
        refine ⟨b, s, rfl, by omega, ho.2, ?_⟩
        walk_at "go"
        rw [e] at hQ; exact hQ
      | false =>
        refine br_f rfl ?_
        rw [e] at hQ; exact hQ
    | orr a b =>
      show SW _ _ [.d (Cond.enc (.orr a b)), .d s.enc, .u] n _
      dsimp only [cxOf]
      have hd' : max a.dep b.dep + 1 ≤ m + 1 := hd
      walk_at "go"
      refine ⟨a, s, rfl, by omega, ho.1, ?_⟩
      walk_at "go"
      simp only [holds] at hQ
      cases e : holds a s with
      | false =>
        refine br_f rfl ?_
        walk_at "go"
        refine ⟨b, s, rfl, by omega, ho.2, ?_⟩
        walk_at "go"
        rw [e] at hQ; exact hQ
      | true =>
        refine br_t rfl ?_
        rw [e] at hQ; exact hQ
theorem fn_holds (B : Bs K mg) : ∀ m : Nat, Fn P w K mg base ns "holds" m ["condition", "state"] [] (sp_holds m)
  | 0 => vac_holds B fun rs n Q h => by
    obtain ⟨c, s, _, hd, _⟩ := h
    have := c.dep_pos
    omega
  | m + 1 => ok_holds B (fn_holds B m)
end
end Dd
set_option Elab.async false
set_option linter.all false
set_option maxRecDepth 100000
set_option autoImplicit false
set_option maxHeartbeats 1000000
/-! Pb: what is beyond, the state behind, reasons, faults. -/
namespace Dd
open PySem PySem.Spec PyProof.Rows L2 Dl
local macro_rules | `(tactic| walk_at "dx.var") => `(tactic| ((with_reducible show EW _ (tVar _) _ _ _); first
  | (refine ew_varD rfl ?_) | (refine ew_varR rfl ?_) | (refine ew_varL rfl ?_) | (refine ew_varW rfl ?_) | (refine ew_varS rfl ?_) | (refine ew_varT rfl ?_)))
local macro_rules | `(tactic| walk_at "dx.ew") => `(tactic| first
  | (walk_at "dx.var")
  | (with_reducible refine ew_int ?_) | ((with_reducible refine ew_str ?hh ?_); (case hh => decide +kernel)) | (with_reducible refine ew_bl ?_) | (with_reducible refine ew_non ?_)
  | ((with_reducible show EW _ (tOp (rIxA _ _) (tVar _) (tC (.int 0))) _ _ _); refine ew_w0 rfl ?_) | ((with_reducible show EW _ (tOp (rIxA _ _) (tVar _) (tC (.int 1))) _ _ _); refine ew_w1 rfl ?_)
  | (with_reducible refine ew_op ?_) | (with_reducible refine ew_un ?_) | (with_reducible refine ew_tupE ?_) | (with_reducible refine ew_lstE ?_) | (with_reducible refine ew_isi ?_) | (with_reducible refine ew_cb ?_)
  | (with_reducible refine ew_andV ?_) | (with_reducible refine ew_orV ?_) | (with_reducible refine ew_notV ?_) | (with_reducible refine ew_call ?_) | (with_reducible refine ew_callD ?_) | ((with_reducible refine ew_lc1 ?hq ?_); (case hq => exact rfl)) | ((with_reducible refine ew_lc2 ?hq ?hq2 ?_); (case hq => exact rfl); (case hq2 => exact rfl)) | (with_reducible refine ew_if ?_) | (with_reducible refine ew_chain ?_) | (with_reducible refine ew_sl ?_) | (with_reducible refine ew_bmS ?_) | (with_reducible refine ew_back ?_))
local macro_rules | `(tactic| walk_at "dx.ow") => `(tactic| first
  | (with_reducible refine ow_addI ?_) | (with_reducible refine ow_eqI ?_) | (with_reducible refine ow_eqS ?_) | (with_reducible refine ow_neI ?_) | (with_reducible refine ow_neS ?_) | (with_reducible refine ow_neN (.inr rfl) (.inl rfl) ?_) | (with_reducible refine ow_eqN (.inr rfl) (.inl rfl) ?_) | ((with_reducible refine ow_inT ?hmm ?_); (case hmm => exact Nat.le_of_ble_eq_true rfl)) | (with_reducible refine ow_isN ?_) | (with_reducible refine ow_noN ?_)
  | (with_reducible refine ow_intB ?_) | (with_reducible refine ow_int ?_) | ((with_reducible refine ow_intC ?hc ?_); (case hc => first | decide | omega))
  | ((with_reducible show OW _ (rIxA _ _) _ _ _); refine ow_ixT rfl ?_))
local macro_rules | `(tactic| walk_at "dx.sw") => `(tactic| first
  | (walk_at "dx.for") | (with_reducible refine sw_seq ?_) | (with_reducible refine sw_next ?_) | ((with_reducible show SW _ (tDrop (tCall _ _ _ _)) _ _ _); refine sw_expr ?_) | (with_reducible refine sw_cont ?_) | (with_reducible refine sw_ret ?_) | (with_reducible refine sw_retN ?_) | (with_reducible refine sw_if ?_)
  | ((with_reducible show SW _ (tAsg (tBM0 _ _ rPop (tVar _)) _) _ _ _); refine sw_pop2 (Nat.le_of_ble_eq_true rfl) (Nat.le_of_ble_eq_true rfl) rfl ?_; dsimp only [List.set])
  | ((with_reducible show SW _ (tDrop (tBM _ _ rExtend _ _)) _ _ _); refine sw_extend rfl ?_) | ((with_reducible show SW _ (tDrop (tBM0 _ _ rReverse _)) _ _ _); refine sw_reverse rfl ?_)
  | ((with_reducible show SW _ (tAsg _ (gSub (tVar _) _ _)) _ _ _); first | (refine sw_draw rfl ?_) | (refine sw_store rfl ?_))
  | ((with_reducible refine sw_set ?hi ?_); (case hi => exact Nat.le_of_ble_eq_true rfl))
  | ((with_reducible refine sw_par ?hi ?hj ?_); (case hi => exact Nat.le_of_ble_eq_true rfl); (case hj => exact Nat.le_of_ble_eq_true rfl); dsimp only [List.set])
  | ((with_reducible refine sw_asg2 ?hi ?hj ?_); (case hi => exact Nat.le_of_ble_eq_true rfl); (case hj => exact Nat.le_of_ble_eq_true rfl); dsimp only [List.set])
  | ((with_reducible refine sw_asg3 ?hi ?hj ?hk ?_); (case hi => exact Nat.le_of_ble_eq_true rfl); (case hj => exact Nat.le_of_ble_eq_true rfl); (case hk => exact Nat.le_of_ble_eq_true rfl); dsimp only [List.set])
  | ((with_reducible refine sw_aug (a := ?aa) ?hi ?_); (case hi => exact rfl); dsimp only [List.set]))
local macro_rules | `(tactic| walk_at "dx.for") => `(tactic| first
  | (with_reducible refine sw_for1 ?_) | (with_reducible refine sw_for2 ?_))
local macro_rules | `(tactic| walk_at "dx.misc") => `(tactic| first
  | (with_reducible refine ea_cons ?_) | (with_reducible refine ea_nil ?_)
  | (with_reducible refine tw_test ?_) | (with_reducible refine tw_B ?_) | (with_reducible refine tw_and ?_) | (with_reducible refine tw_or ?_) | (with_reducible refine tw_not ?_) | (with_reducible refine tw_yes ?_)
  | (with_reducible refine wi_tup ?_) | (with_reducible refine wi_enumT ?_) | (with_reducible refine wi_zipT ?_) | (with_reducible refine wi_rev ?_) | (with_reducible refine wi_range ?_) | (refine wi_enum rfl ?_) | (refine wi_var rfl ?_) | ((with_reducible show WI _ (iList _ (tCall _ _ _ _)) _ _ _); refine wi_new ?_) | (with_reducible refine uw_int ?_) | (with_reducible refine op_no ?_) | (with_reducible refine op_int ?_)
  | ((with_reducible show Br (decide ((_ : Int) < _)) _ _); first | (refine br_t rfl ?_) | (refine br_f rfl ?_)) | ((with_reducible show Br (decide ((_ : Int) ≤ _)) _ _); first | (refine br_t rfl ?_) | (refine br_f rfl ?_)) | ((with_reducible show Br (decide ((_ : Int) = _)) _ _); first | (refine br_t rfl ?_) | (refine br_f rfl ?_)) | ((with_reducible show Br (!decide ((_ : Int) = _)) _ _); first | (refine br_t rfl ?_) | (refine br_f rfl ?_))
  | ((with_reducible show Br (isNone _) _ _); first | (refine br_t rfl ?_) | (refine br_f rfl ?_)) | ((with_reducible show Br (!isNone _) _ _); first | (refine br_t rfl ?_) | (refine br_f rfl ?_))
  | ((with_reducible show Br true _ _); refine br_t rfl ?_) | ((with_reducible show Br false _ _); refine br_f rfl ?_) | (refine br_t (by decide +kernel) ?_) | (refine br_f (by decide +kernel) ?_)
  | (with_reducible refine cw_lenT ?_) | (with_reducible refine cw_listT ?_) | (with_reducible refine cw_tupL (.inr rfl) ?_) | (with_reducible refine cw_tupL (.inl rfl) ?_) | (with_reducible refine cw_lenL (.inr rfl) ?_) | (with_reducible refine cw_lenL (.inl rfl) ?_) | (with_reducible refine cw_lenW ?_)
  | (refine ⟨_, _, rfl, kit_ii, ?_⟩) | (refine ⟨_, _, rfl, kit_ib, ?_⟩) | (refine ⟨_, _, rfl, kit_tt, ?_⟩) | (refine ⟨_, _, rfl, kit_ss, ?_⟩)
  | (with_reducible refine ⟨_, rfl, ?_⟩) | (refine ⟨_, rfl, Nat.le_of_ble_eq_true rfl, ?_⟩) | (with_reducible refine ⟨_, _, rfl, ?_⟩) | (with_reducible refine ⟨_, _, _, rfl, ?_⟩) | ((with_reducible refine ⟨(fun _ z => nomatch z), ?_⟩); dsimp only [List.set]) | (refine ⟨_, _, rfl, by decide +kernel, ?_⟩) | (refine ⟨Nat.le_of_ble_eq_true rfl, ?_⟩) | (with_reducible refine ⟨rfl, ?_⟩) | dsimp only)
local macro_rules | `(tactic| walk_at "dx") => `(tactic| first
  | ((with_reducible show EW _ _ _ _ _); walk_at "dx.ew") | ((with_reducible show SW _ _ _ _ _); walk_at "dx.sw") | ((with_reducible show OW _ _ _ _ _); walk_at "dx.ow") | (walk_at "dx.misc"))
local macro_rules | `(tactic| walk_at "go") => `(tactic| repeat walk_at "dx")
local macro_rules | `(tactic| walk_at "put1") => `(tactic| (refine ⟨Nat.le_of_ble_eq_true rfl, _, rfl, ?_⟩; dsimp only [wipeG, List.map, List.set]))
local macro_rules | `(tactic| walk_at "put2") => `(tactic| (refine ⟨⟨Nat.le_of_ble_eq_true rfl, Nat.le_of_ble_eq_true rfl⟩, _, rfl, ?_⟩; dsimp only [wipeG, List.map, List.set]))
def sp_count_beyond : DSpec := fun rs n Q => ∃ (W : Wd) (d : Deed) (s : Sta), rs = [.d W.enc, .d d.enc, .d s.enc] ∧ s.am.length = W.counts.length ∧ (∀ m ∈ d.moves, m.1 < W.counts.length) ∧ Q (.d (optN (beyond W.counts s.am d.moves))) n
section
variable {P : Program} {w : World} {K : PySem.W.Frag} {mg : Str → Option Value} {base : Heap} {ns : List Int} {k m : Nat}
def nm_count_beyond : List Str := ["plain", "deed", "state", "place", "amount", "atom", "low", "high"]
theorem sc_count_beyond : FnScope nm_count_beyond ["plain", "deed", "state"] (defScope s_count_beyond) := ⟨rfl, rfl, rfl, by decide +kernel, rfl, by decide +kernel, by decide +kernel⟩
/- slots of count_beyond: 0 plain, 1 deed, 2 state, 3 place, 4 amount, 5 atom, 6 low, 7 high -/
theorem ok_count_beyond (B : Bs K mg) : Fn P w K mg base ns "count_beyond" (k + 1) ["plain", "deed", "state"] [] sp_count_beyond := by
  obtain ⟨fd, F⟩ := B.says.def_ 1 (d := d_count_beyond) rfl
  refine ⟨_, fd, _, okD (ns := ns) F sc_count_beyond (fun rs n Q h => ?len) (fun cdv A outer s H E hr => ⟨_, PSs.nox (pss_cons (ps_for PassesOwn.never rfl (pi_tup (pe_ix (ixA hr.units) (pv 1) pe_int (fun _ _ => rfl))) (pg_tup (n := 2) rfl (pgs_cons (pg_name (i := 3) sc_count_beyond.nd rfl (.inl rfl)) (pgs_cons (pg_name (i := 4) sc_count_beyond.nd rfl (.inl rfl)) pgs_nil))) (pss_cons (ps_asg (pe_ix (ixA hr.units) (pe_ix (ixA hr.units) (pv 0) pe_int (fun _ _ => rfl)) (pv 3) (fun _ _ => rfl)) (pg_tup (n := 3) rfl (pgs_cons (pg_name (i := 5) sc_count_beyond.nd rfl (.inl rfl)) (pgs_cons (pg_name (i := 6) sc_count_beyond.nd rfl (.inl rfl)) (pgs_cons (pg_name (i := 7) sc_count_beyond.nd rfl (.inl rfl)) pgs_nil)))))
      (pss_one (ps_if (pt_not (pt_chain op_le op_le (pv 6) (pe_op op_plus (pe_ix (ixA hr.units) (pe_ix (ixA hr.units) (pv 2) pe_int (fun _ _ => rfl)) (pv 3) (fun _ _ => rfl)) (pv 4)) (pv 7))) (pss_one (ps_ret (pv 3))) pss_nil))))
      (pss_one (ps_ret pe_non))), fun rs n Q h => ?walk⟩), B.glo 1 _ rfl, F.kp, .nil, F.bindsN fun _ _ _ _ _ _ us hl => match us, hl with | [_, _, _], _ => rfl⟩
  case len =>
    obtain ⟨_, _, _, rfl, _⟩ := h
    rfl
  case walk =>
    obtain ⟨W, d, s, rfl, hl, hm, hQ⟩ := h
    show SW _ _ [.d W.enc, .d d.enc, .d s.enc, .u, .u, .u, .u, .u] n _
    dsimp only [cxOf]
    walk_at "go"
    refine loop_inv (fun ds G n' => ∃ ms a1 a2 a3 a4 a5, ds = List.map mvD ms ∧ G = [.d W.enc, .d d.enc, .d s.enc, a1, a2, a3, a4, a5] ∧ n' = n ∧ (∀ m ∈ ms, m.1 < W.counts.length) ∧ beyond W.counts s.am d.moves = beyond W.counts s.am ms) ?_ ?_ _ _ _ ⟨d.moves, _, _, _, _, _, rfl, rfl, rfl, hm, rfl⟩
    · rintro G n' ⟨ms, a1, a2, a3, a4, a5, e, rfl, rfl, _, eb⟩
      cases ms with
      | cons _ _ => cases e
      | nil =>
        walk_at "go"
        rw [eb] at hQ
        exact hQ
    · rintro x ds G n' ⟨ms, a1, a2, a3, a4, a5, e, rfl, rfl, hm', eb⟩
      cases ms with
      | nil => cases e
      | cons m ms =>
        rw [List.map_cons] at e
        obtain ⟨rfl, rfl⟩ := List.cons.inj e
        have h1 := hm' m (List.mem_cons_self ..)
        walk_at "put2"
        walk_at "go"
        refine ow_ixT (cnt_atD h1) ?_
        walk_at "go"
        refine ow_ixT (amt_atD (hl ▸ h1)) ?_
        walk_at "go"
        rw [beyond] at eb
        unfold fits at eb
        refine br_2 (fun b1 => ?_) (fun b1 => ?_)
        · walk_at "go"
          refine br_2 (fun b2 => ?_) (fun b2 => ?_)
          · walk_at "go"
            simp only [Bool.not_eq_true'] at b2
            rw [b1, b2] at eb
            rw [eb] at hQ
            exact hQ
          · walk_at "go"
            simp only [Bool.not_eq_false'] at b2
            rw [b1, b2] at eb
            exact ⟨ms, _, _, _, _, _, rfl, rfl, rfl, fun z hz => hm' z (List.mem_cons_of_mem _ hz), eb⟩
        · walk_at "go"
          rw [b1] at eb
          rw [eb] at hQ
          exact hQ
def sp_state_behind : DSpec := fun rs n Q => ∃ (d : Deed) (s : Sta), rs = [.d d.enc, .d s.enc] ∧ (∀ m ∈ d.moves, m.1 < s.am.length) ∧ Q (.d (behind d s).enc) n
def nm_state_behind : List Str := ["deed", "state", "amounts", "place", "amount"]
theorem sc_state_behind : FnScope nm_state_behind ["deed", "state"] (defScope s_state_behind) := ⟨rfl, rfl, rfl, by decide +kernel, rfl, by decide +kernel, by decide +kernel⟩
/- slots of state_behind: 0 deed, 1 state, 2 amounts, 3 place, 4 amount -/
theorem ok_state_behind (B : Bs K mg) : Fn P w K mg base ns "state_behind" (k + 1) ["deed", "state"] [] sp_state_behind := by
  obtain ⟨fd, F⟩ := B.says.def_ 2 (d := d_state_behind) rfl
  refine ⟨_, fd, _, okD (ns := ns) F sc_state_behind (fun rs n Q h => ?len) (fun cdv A outer s H E hr => ⟨_, PSs.nox (pss_cons (ps_set (i := 2) sc_state_behind.nd rfl (.inl rfl) (pe_callTy call_listA (by rfl) (B.free 44 _ rfl) (by decide +kernel) (pa_cons (pe_ix (ixA hr.units) (pv 1) pe_int (fun _ _ => rfl)) pa_nil)))
      (pss_cons (ps_for PassesOwn.never rfl (pi_tup (pe_ix (ixA hr.units) (pv 0) pe_int (fun _ _ => rfl))) (pg_tup (n := 2) rfl (pgs_cons (pg_name (i := 3) sc_state_behind.nd rfl (.inl rfl)) (pgs_cons (pg_name (i := 4) sc_state_behind.nd rfl (.inl rfl)) pgs_nil))) (pss_one (ps_asg (pe_op op_plus (pe_ix (ixA hr.units) (pv 2) (pv 3) (fun _ _ => rfl)) (pv 4)) (pg_sub (pv 2) (pv 3) set_list))))
      (pss_one (ps_ret (pe_tup (pa_cons (pe_op op_or (pe_op op_xor (pe_ix (ixA hr.units) (pv 1) pe_int (fun _ _ => rfl)) (pe_op op_and (pe_ix (ixA hr.units) (pv 1) pe_int (fun _ _ => rfl)) (pe_ix (ixA hr.units) (pv 0) pe_int (fun _ _ => rfl)))) (pe_ix (ixA hr.units) (pv 0) pe_int (fun _ _ => rfl))) (pa_cons (pe_callTy call_tupA (by rfl) (B.free 50 _ rfl) (by decide +kernel) (pa_cons (pv 2) pa_nil)) pa_nil))))))), fun rs n Q h => ?walk⟩), B.glo 2 _ rfl, F.kp, .nil, F.bindsN fun _ _ _ _ _ _ us hl => match us, hl with | [_, _], _ => rfl⟩
  case len =>
    obtain ⟨_, _, rfl, _⟩ := h
    rfl
  case walk =>
    obtain ⟨d, s, rfl, hm, hQ⟩ := h
    show SW _ _ [.d d.enc, .d s.enc, .u, .u, .u] n _
    dsimp only [cxOf]
    walk_at "go"
    refine loop_inv (fun ds G n' => ∃ ms am a1 a2, ds = List.map mvD ms ∧ G = [.d d.enc, .d s.enc, .l (List.map PyData.int am), a1, a2] ∧ n' = n ∧ (∀ m ∈ ms, m.1 < am.length) ∧ moved ms am = moved d.moves s.am) ?_ ?_ _ _ _ ⟨d.moves, s.am, _, _, rfl, rfl, rfl, hm, rfl⟩
    · rintro G n' ⟨ms, am, a1, a2, e, rfl, rfl, _, eb⟩
      cases ms with
      | cons _ _ => cases e
      | nil =>
        walk_at "go"
        rw [bits_behind]
        rw [moved] at eb
        rw [eb]
        exact hQ
    · rintro x ds G n' ⟨ms, am, a1, a2, e, rfl, rfl, hm', eb⟩
      cases ms with
      | nil => cases e
      | cons m ms =>
        rw [List.map_cons] at e
        obtain ⟨rfl, rfl⟩ := List.cons.inj e
        have h1 := hm' m (List.mem_cons_self ..)
        walk_at "put2"
        walk_at "go"
        refine ow_ixL (.inr rfl) (amt_atD h1) ?_
        walk_at "go"
        refine ⟨_, _, rfl, ixN_nat (by rw [List.length_map]; exact h1), ms, am.set m.1 (amt am m.1 + m.2), .d (.int (m.1 : Nat)), .d (.int m.2), rfl, by rw [List.map_set]; rfl, rfl, fun z hz => ?_, eb⟩
        · rw [List.length_set]
          exact hm' z (List.mem_cons_of_mem _ hz)
def sp_is_among : DSpec := fun rs n Q => ∃ (x lo hi : Int), rs = [.d (.int x), .d (.int lo), .d (.int hi)] ∧ Q (.d (.bool (decide (lo ≤ x) && decide (x ≤ hi)))) n
def nm_is_among : List Str := ["thing", "least", "most"]
theorem sc_is_among : FnScope nm_is_among ["thing", "least", "most"] (defScope s_is_among) := ⟨rfl, rfl, rfl, by decide +kernel, rfl, by decide +kernel, by decide +kernel⟩
/- slots of is_among: 0 thing, 1 least, 2 most -/
theorem ok_is_among (B : Bs K mg) : Fn P w K mg base ns "is_among" (k + 1) ["thing", "least", "most"] [] sp_is_among := by
  obtain ⟨fd, F⟩ := B.says.def_ 3 (d := d_is_among) rfl
  refine ⟨_, fd, _, okD (ns := ns) F sc_is_among (fun rs n Q h => ?len) (fun cdv A outer s H E hr => ⟨_, PSs.nox (pss_one (ps_ret (pe_and (pe_callB call_isi (by rfl) (B.free 42 _ rfl) (by decide +kernel) (pa_cons (pv 0) (pa_cons (pe_bltn (v := .ty "int") (by rfl) (B.free 41 _ rfl) (by decide +kernel) rfl) pa_nil))) (pe_and (pe_not (pe_callB call_isi (by rfl) (B.free 42 _ rfl) (by decide +kernel) (pa_cons (pv 0) (pa_cons (pe_bltn (v := .ty "bool") (by rfl) (B.free 38 _ rfl) (by decide +kernel) rfl) pa_nil)))) (pe_one (pe_chain op_le op_le (pv 1) (pv 0) (pv 2))))))), fun rs n Q h => ?walk⟩), B.glo 3 _ rfl, F.kp, .nil, F.bindsN fun _ _ _ _ _ _ us hl => match us, hl with | [_, _, _], _ => rfl⟩
  case len =>
    obtain ⟨_, _, _, rfl, _⟩ := h
    rfl
  case walk =>
    obtain ⟨x, lo, hi, rfl, hQ⟩ := h
    show SW _ _ [.d (.int x), .d (.int lo), .d (.int hi)] n _
    dsimp only [cxOf]
    walk_at "go"
    refine br_2 (fun b1 => ?_) (fun b1 => ?_)
    · walk_at "go"
      rw [b1] at hQ
      exact hQ
    · rw [b1] at hQ
      exact hQ
def sp_reason_of : DSpec := fun rs n Q => ∃ (c : Cond) (s : Sta), rs = [.d c.enc, .d s.enc] ∧ c.dep ≤ 8 ∧ c.ok s.am.length ∧ Q (.d (reason c s).enc) n
def nm_reason_of : List Str := ["condition", "state"]
theorem sc_reason_of : FnScope nm_reason_of ["condition", "state"] (defScope s_reason_of) := ⟨rfl, rfl, rfl, by decide +kernel, rfl, by decide +kernel, by decide +kernel⟩
/- slots of reason_of: 0 condition, 1 state -/
theorem ok_reason_of (B : Bs K mg) (H_holds : Fn P w K mg base ns "holds" 8 ["condition", "state"] [] (sp_holds 8)) : Fn P w K mg base ns "reason_of" (8 + 1) ["condition", "state"] [] sp_reason_of := by
  obtain ⟨fd, F⟩ := B.says.def_ 7 (d := d_reason_of) rfl
  refine ⟨_, fd, _, okD (ns := ns) F sc_reason_of (fun rs n Q h => ?len) (fun cdv A outer s H E hr => ⟨_, PSs.nox (pss_cons (ps_while PassesOwn.never (pt_cmpR (op_eqM hr.units) (pe_ix (ixA hr.units) (pv 0) pe_int (fun _ _ => rfl)) pe_str (nomark _)) (pss_one (ps_set (i := 0) sc_reason_of.nd rfl (.inl rfl) (pe_ifExp (pt_val (pe_fn H_holds (hr.mono (by omega)) (by rfl) (pa_cons (pe_ix (ixA hr.units) (pv 0) pe_int (fun _ _ => rfl)) (pa_cons (pv 1) pa_nil)))) (pe_ix (ixA hr.units) (pv 0) pe_int (fun _ _ => rfl)) (pe_ix (ixA hr.units) (pv 0) pe_int (fun _ _ => rfl))))))
      (pss_one (ps_ret (pv 0)))), fun rs n Q h => ?walk⟩), B.glo 7 _ rfl, F.kp, .nil, F.bindsN fun _ _ _ _ _ _ us hl => match us, hl with | [_, _], _ => rfl⟩
  case len =>
    obtain ⟨_, _, rfl, _⟩ := h
    rfl
  case walk =>
    obtain ⟨c, s, rfl, hd, ho, hQ⟩ := h
    show SW _ _ [.d c.enc, .d s.enc] n _
    dsimp only [cxOf]
    walk_at "go"
    refine while_inv (fun m G n' => ∃ c', G = [.d c'.enc, .d s.enc] ∧ n' = n ∧ c'.dep ≤ m ∧ c'.dep ≤ 8 ∧ c'.ok s.am.length ∧ reason c' s = reason c s) ?_ c.dep _ _ ⟨c, rfl, rfl, Nat.le_refl _, hd, ho, rfl⟩
    rintro m G n' ⟨c', rfl, rfl, hm, hd', ho', er⟩
    cases m with
    | zero =>
      have := c'.dep_pos
      omega
    | succ m =>
      cases c' with
      | an a b =>
        have hm2 : max a.dep b.dep + 1 ≤ m + 1 := hm
        have hd2 : max a.dep b.dep + 1 ≤ 8 := hd'
        walk_at "go"
        refine ⟨a, s, rfl, by omega, ho'.1, ?_⟩
        walk_at "go"
        rw [reason] at er
        refine br_2 (fun b1 => ?_) (fun b1 => ?_)
        · walk_at "go"
          rw [if_pos b1] at er
          exact ⟨by omega, by omega, ho'.2, er⟩
        · walk_at "go"
          rw [if_neg (by rw [b1]; exact Bool.false_ne_true)] at er
          exact ⟨by omega, by omega, ho'.1, er⟩
      | _ =>
        walk_at "go"
        rw [← er] at hQ
        exact hQ
def sp_fault_of : DSpec := fun rs n Q => ∃ (W : Wd) (d : Deed) (s : Sta), rs = [.d W.enc, .d d.enc, .d s.enc] ∧ s.am.length = W.counts.length ∧ DeedOk W.counts.length d ∧ Q (.d (fault W.counts d s)) n
def nm_fault_of : List Str := ["plain", "deed", "state", "place"]
theorem sc_fault_of : FnScope nm_fault_of ["plain", "deed", "state"] (defScope s_fault_of) := ⟨rfl, rfl, rfl, by decide +kernel, rfl, by decide +kernel, by decide +kernel⟩
/- slots of fault_of: 0 plain, 1 deed, 2 state, 3 place -/
theorem ok_fault_of (B : Bs K mg) (H_count_beyond : Fn P w K mg base ns "count_beyond" 1 ["plain", "deed", "state"] [] sp_count_beyond) (H_holds : Fn P w K mg base ns "holds" 8 ["condition", "state"] [] (sp_holds 8)) (H_reason_of : Fn P w K mg base ns "reason_of" 9 ["condition", "state"] [] sp_reason_of) : Fn P w K mg base ns "fault_of" (9 + 1) ["plain", "deed", "state"] [] sp_fault_of := by
  obtain ⟨fd, F⟩ := B.says.def_ 8 (d := d_fault_of) rfl
  refine ⟨_, fd, _, okD (ns := ns) F sc_fault_of (fun rs n Q h => ?len) (fun cdv A outer s H E hr => ⟨_, PSs.nox (pss_cons (ps_if (pt_not (pt_val (pe_fn H_holds (hr.mono (by omega)) (by rfl) (pa_cons (pe_ix (ixA hr.units) (pv 1) pe_int (fun _ _ => rfl)) (pa_cons (pv 2) pa_nil))))) (pss_one (ps_ret (pe_fn H_reason_of (hr.mono (by omega)) (by rfl) (pa_cons (pe_ix (ixA hr.units) (pv 1) pe_int (fun _ _ => rfl)) (pa_cons (pv 2) pa_nil))))) pss_nil)
      (pss_cons (ps_set (i := 3) sc_fault_of.nd rfl (.inl rfl) (pe_fn H_count_beyond (hr.mono (by omega)) (by rfl) (pa_cons (pv 0) (pa_cons (pv 1) (pa_cons (pv 2) pa_nil)))))
      (pss_one (ps_ret (pe_ifExp (pt_cmpR op_none (pv 3) pe_non (nomark _)) pe_non (pe_tup (pa_cons pe_str (pa_cons (pv 3) pa_nil)))))))), fun rs n Q h => ?walk⟩), B.glo 8 _ rfl, F.kp, .nil, F.bindsN fun _ _ _ _ _ _ us hl => match us, hl with | [_, _, _], _ => rfl⟩
  case len =>
    obtain ⟨_, _, _, rfl, _⟩ := h
    rfl
  case walk =>
    obtain ⟨W, d, s, rfl, hl, hd, hQ⟩ := h
    show SW _ _ [.d W.enc, .d d.enc, .d s.enc, .u] n _
    dsimp only [cxOf]
    walk_at "go"
    refine ⟨_, _, rfl, hd.ndep, by rw [hl]; exact hd.need, ?_⟩
    walk_at "go"
    rw [fault] at hQ
    refine br_2 (fun b1 => ?_) (fun b1 => ?_)
    · simp only [Bool.not_eq_true'] at b1
      walk_at "go"
      refine ⟨_, _, rfl, hd.ndep, by rw [hl]; exact hd.need, rfl, ?_⟩
      rw [if_neg (by rw [b1]; exact Bool.false_ne_true)] at hQ
      exact hQ
    · simp only [Bool.not_eq_false'] at b1
      walk_at "go"
      refine ⟨W, d, s, rfl, hl, hd.mv, ?_⟩
      walk_at "go"
      rw [if_pos b1] at hQ
      cases e : beyond W.counts s.am d.moves with
      | none =>
        rw [e] at hQ
        walk_at "go"
        exact hQ
      | some i =>
        rw [e] at hQ
        walk_at "go"
        exact hQ
end
end Dd
set_option Elab.async false
set_option linter.all false
set_option maxRecDepth 100000
set_option autoImplicit false
set_option maxHeartbeats 1000000
/-! Pc: states, plans, trees. -/
namespace Dd
open PySem PySem.Spec PyProof.Rows L2 Dl
local macro_rules | `(tactic| walk_at "dx.var") => `(tactic| ((with_reducible show EW _ (tVar _) _ _ _); first
  | (refine ew_varD rfl ?_) | (refine ew_varR rfl ?_) | (refine ew_varL rfl ?_) | (refine ew_varW rfl ?_) | (refine ew_varS rfl ?_) | (refine ew_varT rfl ?_)))
local macro_rules | `(tactic| walk_at "dx.ew") => `(tactic| first
  | (walk_at "dx.var")
  | (with_reducible refine ew_int ?_) | ((with_reducible refine ew_str ?hh ?_); (case hh => decide +kernel)) | (with_reducible refine ew_bl ?_) | (with_reducible refine ew_non ?_)
  | ((with_reducible show EW _ (tOp (rIxA _ _) (tVar _) (tC (.int 0))) _ _ _); refine ew_w0 rfl ?_) | ((with_reducible show EW _ (tOp (rIxA _ _) (tVar _) (tC (.int 1))) _ _ _); refine ew_w1 rfl ?_)
  | (with_reducible refine ew_op ?_) | (with_reducible refine ew_un ?_) | (with_reducible refine ew_tupE ?_) | (with_reducible refine ew_lstE ?_) | (with_reducible refine ew_isi ?_) | (with_reducible refine ew_cb ?_)
  | (with_reducible refine ew_andV ?_) | (with_reducible refine ew_orV ?_) | (with_reducible refine ew_notV ?_) | (with_reducible refine ew_call ?_) | (with_reducible refine ew_callD ?_) | ((with_reducible refine ew_lc1 ?hq ?_); (case hq => exact rfl)) | ((with_reducible refine ew_lc2 ?hq ?hq2 ?_); (case hq => exact rfl); (case hq2 => exact rfl)) | (with_reducible refine ew_if ?_) | (with_reducible refine ew_chain ?_) | (with_reducible refine ew_sl ?_) | (with_reducible refine ew_bmS ?_) | (with_reducible refine ew_back ?_))
local macro_rules | `(tactic| walk_at "dx.ow") => `(tactic| first
  | (with_reducible refine ow_addI ?_) | (with_reducible refine ow_eqI ?_) | (with_reducible refine ow_eqS ?_) | (with_reducible refine ow_neI ?_) | (with_reducible refine ow_neS ?_) | (with_reducible refine ow_neN (.inr rfl) (.inl rfl) ?_) | (with_reducible refine ow_eqN (.inr rfl) (.inl rfl) ?_) | ((with_reducible refine ow_inT ?hmm ?_); (case hmm => exact Nat.le_of_ble_eq_true rfl)) | (with_reducible refine ow_isN ?_) | (with_reducible refine ow_noN ?_)
  | (with_reducible refine ow_intB ?_) | (with_reducible refine ow_int ?_) | ((with_reducible refine ow_intC ?hc ?_); (case hc => first | decide | omega))
  | ((with_reducible show OW _ (rIxA _ _) _ _ _); refine ow_ixT rfl ?_))
local macro_rules | `(tactic| walk_at "dx.sw") => `(tactic| first
  | (walk_at "dx.for") | (with_reducible refine sw_seq ?_) | (with_reducible refine sw_next ?_) | ((with_reducible show SW _ (tDrop (tCall _ _ _ _)) _ _ _); refine sw_expr ?_) | (with_reducible refine sw_cont ?_) | (with_reducible refine sw_ret ?_) | (with_reducible refine sw_retN ?_) | (with_reducible refine sw_if ?_)
  | ((with_reducible show SW _ (tAsg (tBM0 _ _ rPop (tVar _)) _) _ _ _); refine sw_pop2 (Nat.le_of_ble_eq_true rfl) (Nat.le_of_ble_eq_true rfl) rfl ?_; dsimp only [List.set])
  | ((with_reducible show SW _ (tDrop (tBM _ _ rExtend _ _)) _ _ _); refine sw_extend rfl ?_) | ((with_reducible show SW _ (tDrop (tBM0 _ _ rReverse _)) _ _ _); refine sw_reverse rfl ?_)
  | ((with_reducible show SW _ (tAsg _ (gSub (tVar _) _ _)) _ _ _); first | (refine sw_draw rfl ?_) | (refine sw_store rfl ?_))
  | ((with_reducible refine sw_set ?hi ?_); (case hi => exact Nat.le_of_ble_eq_true rfl))
  | ((with_reducible refine sw_par ?hi ?hj ?_); (case hi => exact Nat.le_of_ble_eq_true rfl); (case hj => exact Nat.le_of_ble_eq_true rfl); dsimp only [List.set])
  | ((with_reducible refine sw_asg2 ?hi ?hj ?_); (case hi => exact Nat.le_of_ble_eq_true rfl); (case hj => exact Nat.le_of_ble_eq_true rfl); dsimp only [List.set])
  | ((with_reducible refine sw_asg3 ?hi ?hj ?hk ?_); (case hi => exact Nat.le_of_ble_eq_true rfl); (case hj => exact Nat.le_of_ble_eq_true rfl); (case hk => exact Nat.le_of_ble_eq_true rfl); dsimp only [List.set])
  | ((with_reducible refine sw_aug (a := ?aa) ?hi ?_); (case hi => exact rfl); dsimp only [List.set]))
local macro_rules | `(tactic| walk_at "dx.for") => `(tactic| first
  | (with_reducible refine sw_for1 ?_) | (with_reducible refine sw_for2 ?_))
local macro_rules | `(tactic| walk_at "dx.misc") => `(tactic| first
  | (with_reducible refine ea_cons ?_) | (with_reducible refine ea_nil ?_)
  | (with_reducible refine tw_test ?_) | (with_reducible refine tw_B ?_) | (with_reducible refine tw_and ?_) | (with_reducible refine tw_or ?_) | (with_reducible refine tw_not ?_) | (with_reducible refine tw_yes ?_)
  | (with_reducible refine wi_tup ?_) | (with_reducible refine wi_enumT ?_) | (with_reducible refine wi_zipT ?_) | (with_reducible refine wi_rev ?_) | (with_reducible refine wi_range ?_) | (refine wi_enum rfl ?_) | (refine wi_var rfl ?_) | ((with_reducible show WI _ (iList _ (tCall _ _ _ _)) _ _ _); refine wi_new ?_) | (with_reducible refine uw_int ?_) | (with_reducible refine op_no ?_) | (with_reducible refine op_int ?_)
  | ((with_reducible show Br (decide ((_ : Int) < _)) _ _); first | (refine br_t rfl ?_) | (refine br_f rfl ?_)) | ((with_reducible show Br (decide ((_ : Int) ≤ _)) _ _); first | (refine br_t rfl ?_) | (refine br_f rfl ?_)) | ((with_reducible show Br (decide ((_ : Int) = _)) _ _); first | (refine br_t rfl ?_) | (refine br_f rfl ?_)) | ((with_reducible show Br (!decide ((_ : Int) = _)) _ _); first | (refine br_t rfl ?_) | (refine br_f rfl ?_))
  | ((with_reducible show Br (isNone _) _ _); first | (refine br_t rfl ?_) | (refine br_f rfl ?_)) | ((with_reducible show Br (!isNone _) _ _); first | (refine br_t rfl ?_) | (refine br_f rfl ?_))
  | ((with_reducible show Br true _ _); refine br_t rfl ?_) | ((with_reducible show Br false _ _); refine br_f rfl ?_) | (refine br_t (by decide +kernel) ?_) | (refine br_f (by decide +kernel) ?_)
  | (with_reducible refine cw_lenT ?_) | (with_reducible refine cw_listT ?_) | (with_reducible refine cw_tupL (.inr rfl) ?_) | (with_reducible refine cw_tupL (.inl rfl) ?_) | (with_reducible refine cw_lenL (.inr rfl) ?_) | (with_reducible refine cw_lenL (.inl rfl) ?_) | (with_reducible refine cw_lenW ?_)
  | (refine ⟨_, _, rfl, kit_ii, ?_⟩) | (refine ⟨_, _, rfl, kit_ib, ?_⟩) | (refine ⟨_, _, rfl, kit_tt, ?_⟩) | (refine ⟨_, _, rfl, kit_ss, ?_⟩)
  | (with_reducible refine ⟨_, rfl, ?_⟩) | (refine ⟨_, rfl, Nat.le_of_ble_eq_true rfl, ?_⟩) | (with_reducible refine ⟨_, _, rfl, ?_⟩) | (with_reducible refine ⟨_, _, _, rfl, ?_⟩) | ((with_reducible refine ⟨(fun _ z => nomatch z), ?_⟩); dsimp only [List.set]) | (refine ⟨_, _, rfl, by decide +kernel, ?_⟩) | (refine ⟨Nat.le_of_ble_eq_true rfl, ?_⟩) | (with_reducible refine ⟨rfl, ?_⟩) | dsimp only)
local macro_rules | `(tactic| walk_at "dx") => `(tactic| first
  | ((with_reducible show EW _ _ _ _ _); walk_at "dx.ew") | ((with_reducible show SW _ _ _ _ _); walk_at "dx.sw") | ((with_reducible show OW _ _ _ _ _); walk_at "dx.ow") | (walk_at "dx.misc"))
local macro_rules | `(tactic| walk_at "go") => `(tactic| repeat walk_at "dx")
local macro_rules | `(tactic| walk_at "put1") => `(tactic| (refine ⟨Nat.le_of_ble_eq_true rfl, _, rfl, ?_⟩; dsimp only [wipeG, List.map, List.set]))
local macro_rules | `(tactic| walk_at "put2") => `(tactic| (refine ⟨⟨Nat.le_of_ble_eq_true rfl, Nat.le_of_ble_eq_true rfl⟩, _, rfl, ?_⟩; dsimp only [wipeG, List.map, List.set]))
def sp_is_state : DSpec := fun rs n Q => ∃ (W : Wd) (s : Sta), rs = [.d W.enc, .d s.enc] ∧ W.atoms.length ≤ 1000 ∧ W.counts.length ≤ 1000 ∧ StaIn W s ∧ Q (.d (.bool true)) n
def sp_need_state : DSpec := fun rs n Q => ∃ (W : Wd) (s : Sta), rs = [.d W.enc, .d s.enc] ∧ W.atoms.length ≤ 1000 ∧ W.counts.length ≤ 1000 ∧ StaIn W s ∧ Q (.d .none) n
def sp_need_plan : DSpec := fun rs n Q => ∃ (W : Wd) (ls : List PyData), rs = [.d W.enc, .d (.tuple ls), .d (.int 12)] ∧ WdOk W ∧ ls.length ≤ 12 ∧ (∀ l ∈ ls, ∃ d ∈ W.deeds, d.lab = l) ∧ ∀ xs, Q (.l xs) n
def sp_tree_of : DSpec := fun rs n Q => ∃ (W : Wd) (ls : List PyData), rs = [.d W.enc, .d (.tuple ls)] ∧ WdOk W ∧ ls.length ≤ 12 ∧ (∀ l ∈ ls, ∃ d ∈ W.deeds, d.lab = l) ∧ Q (.d (treeOf ls).enc) n
def sp_kids_of : DSpec := fun rs n Q => ∃ (W : Wd) (t : Tree), rs = [.d W.enc, .r (W.deeds.map Deed.lab), .d t.enc] ∧ WdOk W ∧ t.ok W ∧ Q (.l ((kids t).map Tree.enc)) n
section
variable {P : Program} {w : World} {K : PySem.W.Frag} {mg : Str → Option Value} {base : Heap} {ns : List Int} {k m : Nat}
def nm_is_state : List Str := ["plain", "thing", "amount", "count"]
theorem sc_is_state : FnScope nm_is_state ["plain", "thing"] (defScope s_is_state) := ⟨rfl, rfl, rfl, by decide +kernel, rfl, by decide +kernel, by decide +kernel⟩
/- slots of is_state: 0 plain, 1 thing, 2 amount, 3 count -/
theorem ok_is_state (B : Bs K mg) (H_is_among : Fn P w K mg base ns "is_among" 1 ["thing", "least", "most"] [] sp_is_among) : Fn P w K mg base ns "is_state" (1 + 1) ["plain", "thing"] [] sp_is_state := by
  obtain ⟨fd, F⟩ := B.says.def_ 4 (d := d_is_state) rfl
  refine ⟨_, fd, _, okD (ns := ns) F sc_is_state (fun rs n Q h => ?len) (fun cdv A outer s H E hr => ⟨_, PSs.nox (pss_cons (ps_if (PW.pt (pw_or (pt_not (pt_val (pe_callB call_isi (by rfl) (B.free 42 _ rfl) (by decide +kernel) (pa_cons (pv 1) (pa_cons (pe_bltn (v := .ty "tuple") (by rfl) (B.free 50 _ rfl) (by decide +kernel) rfl) pa_nil))))) (pw_or (pt_cmpR (op_neM hr.units) (pe_callB call_lenA (by rfl) (B.free 43 _ rfl) PySem.boot_len (pa_cons (pv 1) pa_nil)) pe_int (nomark _)) (pw_or1 (pt_not (pt_val (pe_fn H_is_among (hr.mono (by omega)) (by rfl) (pa_cons (pe_ix (ixA hr.units) (pv 1) pe_int (fun _ _ => rfl)) (pa_cons pe_int (pa_cons (pe_op op_sub (pe_op op_shl pe_int (pe_callB call_lenA (by rfl) (B.free 43 _ rfl) PySem.boot_len (pa_cons (pe_ix (ixA hr.units) (pv 0) pe_int (fun _ _ => rfl)) pa_nil))) pe_int) pa_nil)))))))))) (pss_one (ps_ret pe_bl)) pss_nil)
      (pss_cons (ps_if (PW.pt (pw_or (pt_not (pt_val (pe_callB call_isi (by rfl) (B.free 42 _ rfl) (by decide +kernel) (pa_cons (pe_ix (ixA hr.units) (pv 1) pe_int (fun _ _ => rfl)) (pa_cons (pe_bltn (v := .ty "tuple") (by rfl) (B.free 50 _ rfl) (by decide +kernel) rfl) pa_nil))))) (pw_or1 (pt_cmpR (op_neM hr.units) (pe_callB call_lenA (by rfl) (B.free 43 _ rfl) PySem.boot_len (pa_cons (pe_ix (ixA hr.units) (pv 1) pe_int (fun _ _ => rfl)) pa_nil)) (pe_callB call_lenA (by rfl) (B.free 43 _ rfl) PySem.boot_len (pa_cons (pe_ix (ixA hr.units) (pv 0) pe_int (fun _ _ => rfl)) pa_nil)) (nomark _))))) (pss_one (ps_ret pe_bl)) pss_nil)
      (pss_one (ps_ret (pe_callB (cr_all rfl) (by rfl) (B.free 37 _ rfl) (by decide +kernel) (pa_cons (pe_lc (own := [("amount", 2), ("count", 3)]) (g := gTup K 2 (gCons (gName 2) (gCons (gName 3) gNil))) (tt := tYes) (te := (tCall (spOf ⟨K, ns, w⟩ sp_is_among) [] E0 (tCons (tVar 2) (tCons (tOp (rIxA K w) (tVar 3) (tC (V.int 1))) (tCons (tOp (rIxA K w) (tVar 3) (tC (V.int 2))) tNil))))) rfl sc_is_state.nd (RZ.pi_zipA (by rfl) (B.free 51 _ rfl) (pa_cons (pe_ix (ixA hr.units) (pv 1) pe_int (fun _ _ => rfl)) (pa_cons (pe_ix (ixA hr.units) (pv 0) pe_int (fun _ _ => rfl)) pa_nil))) (blkOk_by (own := [("amount", 2), ("count", 3)]) (N := nm_is_state) (sc := defScope s_is_state) (by decide +kernel)) (fun _ _ _ _ _ => (pg_tup (n := 2) rfl (pgs_cons (pg_name (i := 2) sc_is_state.nd rfl (.inl rfl)) (pgs_cons (pg_name (i := 3) sc_is_state.nd rfl (.inl rfl)) pgs_nil)))) (fun _ _ _ _ _ => pts_nil) (fun _ _ _ _ _ => (pe_fn H_is_among (hr.mono (by omega)) (by rfl) (pa_cons (pv 2) (pa_cons (pe_ix (ixA hr.units) (pv 3) pe_int (fun _ _ => rfl)) (pa_cons (pe_ix (ixA hr.units) (pv 3) pe_int (fun _ _ => rfl)) pa_nil)))))) pa_nil)))))), fun rs n Q h => ?walk⟩), B.glo 4 _ rfl, F.kp, .nil, F.bindsN fun _ _ _ _ _ _ us hl => match us, hl with | [_, _], _ => rfl⟩
  case len =>
    obtain ⟨_, _, rfl, _⟩ := h
    rfl
  case walk =>
    obtain ⟨W, s, rfl, ha, hc, hs, hQ⟩ := h
    show SW _ _ [.d W.enc, .d (.tuple [.int (s.bits : Nat), s.ams]), .u, .u] n _
    dsimp only [cxOf]
    walk_at "go"
    refine ow_intC ⟨by omega, by omega, by decide⟩ ?_
    walk_at "go"
    have hb := hs.bits
    have e1 : (0 : Int) ≤ s.bits := by omega
    have e2 : ((s.bits : Nat) : Int) ≤ 1 * 2 ^ (W.atoms.length : Int).toNat - 1 := by
      rw [Int.toNat_natCast, Int.one_mul]
      have : ((2 ^ W.atoms.length : Nat) : Int) = (2 : Int) ^ W.atoms.length := Int.natCast_pow 2 _
      omega
    refine ⟨_, _, _, rfl, ?_⟩
    rw [decide_eq_true e1, decide_eq_true e2]
    walk_at "go"
    rw [List.length_map, List.length_map, hs.len]
    refine br_f (by rw [decide_eq_true rfl]; rfl) ?_
    walk_at "go"
    have hlen : (List.map PyData.int s.am).length = (List.map Cnt.enc W.counts).length := by rw [List.length_map, List.length_map, hs.len]
    refine ⟨hlen, by rw [zipD_len hlen, List.length_map]; omega, comp_mapD (fun _ => .bool true) _ _ (fun d hd => ?_) ?_⟩
    · obtain ⟨j, hj⟩ := List.mem_iff_getElem?.1 hd
      obtain ⟨x, y, hx, hy, rfl⟩ := zipD_get hj
      have hjl : j < W.counts.length := by
        have := (List.getElem?_eq_some_iff.1 hy).1
        rwa [List.length_map] at this
      rw [List.getElem?_map, amt_at (hs.len ▸ hjl)] at hx
      rw [List.getElem?_map, cnt_at hjl] at hy
      cases hx
      cases hy
      walk_at "put2"
      walk_at "go"
      refine ⟨_, _, _, rfl, ?_⟩
      obtain ⟨h1, h2⟩ := hs.am j hjl
      rw [decide_eq_true h1, decide_eq_true h2]
      exact ⟨rfl, rfl, rfl⟩
    · walk_at "go"
      refine cw_all (bs := (zipD (List.map PyData.int s.am) (List.map Cnt.enc W.counts)).map fun _ => true) (.inl (by rw [List.map_map]; rfl)) ?_
      rw [show (List.map (fun _ => true) (zipD (List.map PyData.int s.am) (List.map Cnt.enc W.counts))).all id = true from List.all_eq_true.2 fun b hb => by
        obtain ⟨_, _, rfl⟩ := List.mem_map.1 hb
        rfl]
      exact hQ
def nm_need_state : List Str := ["plain", "thing"]
theorem sc_need_state : FnScope nm_need_state ["plain", "thing"] (defScope s_need_state) := ⟨rfl, rfl, rfl, by decide +kernel, rfl, by decide +kernel, by decide +kernel⟩
/- slots of need_state: 0 plain, 1 thing -/
theorem ok_need_state (B : Bs K mg) (H_is_state : Fn P w K mg base ns "is_state" 2 ["plain", "thing"] [] sp_is_state) : Fn P w K mg base ns "need_state" (2 + 1) ["plain", "thing"] [] sp_need_state := by
  obtain ⟨fd, F⟩ := B.says.def_ 5 (d := d_need_state) rfl
  refine ⟨_, fd, _, okD (ns := ns) F sc_need_state (fun rs n Q h => ?len) (fun cdv A outer s H E hr => ⟨_, PSs.nox (pss_one (ps_if (pt_not (pt_val (pe_fn H_is_state (hr.mono (by omega)) (by rfl) (pa_cons (pv 0) (pa_cons (pv 1) pa_nil))))) (pss_one ps_never) pss_nil)), fun rs n Q h => ?walk⟩), B.glo 5 _ rfl, F.kp, .nil, F.bindsN fun _ _ _ _ _ _ us hl => match us, hl with | [_, _], _ => rfl⟩
  case len =>
    obtain ⟨_, _, rfl, _⟩ := h
    rfl
  case walk =>
    obtain ⟨W, s, rfl, ha, hc, hs, hQ⟩ := h
    show SW _ _ [.d W.enc, .d s.enc] n _
    dsimp only [cxOf]
    walk_at "go"
    refine ⟨W, s, rfl, ha, hc, hs, ?_⟩
    walk_at "go"
    exact hQ
def nm_need_plan : List Str := ["plain", "plan", "most", "by_label", "labels", "place", "label", "deed"]
theorem sc_need_plan : FnScope nm_need_plan ["plain", "plan", "most"] (defScope s_need_plan) := ⟨rfl, rfl, rfl, by decide +kernel, rfl, by decide +kernel, by decide +kernel⟩
/- slots of need_plan: 0 plain, 1 plan, 2 most, 3 by_label, 4 labels, 5 place, 6 label, 7 deed -/
theorem ok_need_plan (B : Bs K mg) : Fn P w K mg base ns "need_plan" (1 + 1) ["plain", "plan", "most"] [.int 12] sp_need_plan := by
  obtain ⟨fd, F⟩ := B.says.def_ 6 (d := d_need_plan) rfl
  obtain ⟨ds, hvals, hbinds⟩ := F.binds1 (ps := ["plain", "plan", "most"]) 2 0 (List.cons_ne_nil _ _) rfl (fun T kV doc pm an cdv ct us its hu hi => match us, its, hu, hi with | [_, _], [_], _, _ => ⟨_, rfl, rfl⟩)
  refine ⟨_, fd, _, okD (ns := ns) F sc_need_plan (fun rs n Q h => ?len) (fun cdv A outer s H E hr => ⟨_, PSs.nox (pss_cons (ps_if (PW.pt (pw_or (pt_not (pt_val (pe_callB call_isi (by rfl) (B.free 42 _ rfl) (by decide +kernel) (pa_cons (pv 1) (pa_cons (pe_bltn (v := .ty "tuple") (by rfl) (B.free 50 _ rfl) (by decide +kernel) rfl) pa_nil))))) (pw_or1 (pt_cmpR op_gt (pe_callB call_lenA (by rfl) (B.free 43 _ rfl) PySem.boot_len (pa_cons (pv 1) pa_nil)) (pv 2) (nomark _))))) (pss_one ps_never) pss_nil)
      (pss_cons (ps_set (i := 3) sc_need_plan.nd rfl (.inr rfl) (pe_callTy (call_dict rfl hr.units) (by rfl) (B.free 39 _ rfl) (by decide +kernel) (pa_cons (pe_lc (own := [("deed", 7)]) (g := gName 7) (tt := tYes) (te := (tTup (tCons (tOp (rIxA K w) (tVar 7) (tC (V.int 0))) (tCons (tVar 7) tNil)))) rfl sc_need_plan.nd (pi_tup (pe_ix (ixA hr.units) (pv 0) pe_int (fun _ _ => rfl))) (blkOk_by (own := [("deed", 7)]) (N := nm_need_plan) (sc := defScope s_need_plan) (by decide +kernel)) (fun _ _ _ _ _ => (pg_name (i := 7) sc_need_plan.nd rfl (.inl rfl))) (fun _ _ _ _ _ => pts_nil) (fun _ _ _ _ _ => (pe_tup (pa_cons (pe_ix (ixA hr.units) (pv 7) pe_int (fun _ _ => rfl)) (pa_cons (pv 7) pa_nil))))) pa_nil)))
      (pss_cons (ps_set (i := 4) sc_need_plan.nd rfl (.inl rfl) (pe_callTy (call_listD rfl) (by rfl) (B.free 44 _ rfl) (by decide +kernel) (pa_cons (pv 3) pa_nil)))
      (pss_cons (ps_for PassesOwn.never rfl (pi_enumT (by rfl) (B.free 40 _ rfl) (pa_cons (pv 1) pa_nil)) (pg_tup (n := 2) rfl (pgs_cons (pg_name (i := 5) sc_need_plan.nd rfl (.inl rfl)) (pgs_cons (pg_name (i := 6) sc_need_plan.nd rfl (.inl rfl)) pgs_nil))) (pss_one (ps_if (PW.pt (pw_or (pt_not (pt_val (pe_callB call_isi (by rfl) (B.free 42 _ rfl) (by decide +kernel) (pa_cons (pv 6) (pa_cons (pe_bltn (v := .ty "tuple") (by rfl) (B.free 50 _ rfl) (by decide +kernel) rfl) pa_nil))))) (pw_or1 (pt_cmpR (op_notInM hr.units) (pv 6) (pv 4) (by rfl))))) (pss_one ps_never) pss_nil)))
      (pss_one (ps_ret (pe_lc (own := [("label", 6)]) (g := gName 6) (tt := tYes) (te := (tOp (rIxA K w) (tVar 3) (tVar 6))) rfl sc_need_plan.nd (pi_tup (pv 1)) (blkOk_by (own := [("label", 6)]) (N := nm_need_plan) (sc := defScope s_need_plan) (by decide +kernel)) (fun _ _ _ _ _ => (pg_name (i := 6) sc_need_plan.nd rfl (.inl rfl))) (fun _ _ _ _ _ => pts_nil) (fun _ _ _ _ _ => (pe_ix (ixA hr.units) (pv 3) (pv 6) (fun _ _ => rfl)))))))))), fun rs n Q h => ?walk⟩), B.glo 6 _ rfl, F.kp, hvals, hbinds⟩
  case len =>
    obtain ⟨_, _, rfl, _⟩ := h
    rfl
  case walk =>
    obtain ⟨W, ls, rfl, hW, hl, hm, hQ⟩ := h
    show SW _ _ [.d W.enc, .d (.tuple ls), .d (.int 12), .u, .u, .u, .u, .u] n _
    dsimp only [cxOf]
    walk_at "go"
    refine br_f (decide_eq_false (by omega)) ?_
    walk_at "go"
    have hdl := hW.dds
    refine ⟨by rw [List.length_map]; omega, comp_mapE Deed.enc (fun d => .tuple [d.lab, d.enc]) _ _ (fun d hd => ?_) ?_⟩
    · walk_at "put1"
      walk_at "go"
    · walk_at "go"
      rw [List.nil_append, prs_pr]
      refine cw_dict (.inl rfl) hW.prs ?_
      walk_at "go"
      refine cw_listD (by rw [prs, List.length_map]; omega) fun ks hks => ?_
      walk_at "go"
      refine loop_inv (fun ds G n' => ∃ pre rest a b, ds = enumD pre rest ∧ G = [.d W.enc, .d (.tuple ls), .d (.int 12), .t (prs W), .l ks, a, b, .u] ∧ n' = n ∧ ∀ l ∈ rest, ∃ d ∈ W.deeds, d.lab = l) ?_ ?_ _ _ _ ⟨0, ls, _, _, rfl, rfl, rfl, hm⟩
      · rintro G n' ⟨pre, rest, a, b, e, rfl, rfl, _⟩
        walk_at "go"
        refine ⟨by omega, comp_mapD (fun l => ((find W.deeds l).map Deed.enc).getD .none) _ _ (fun l hl' => ?_) ?_⟩
        · obtain ⟨d, e1, _, _, e2⟩ := hW.look (hm l hl')
          have hL := hW.labs (hm l hl')
          obtain ⟨zs, rfl⟩ := hL.tup
          walk_at "put1"
          walk_at "go"
          exact ow_ixD hL.key hL.dep e2 ⟨rfl, by rw [e1]; rfl⟩
        · exact hQ _
      · rintro x ds G n' ⟨pre, rest, a, b, e, rfl, rfl, hr⟩
        cases rest with
        | nil => cases e
        | cons l rest =>
          rw [enumD] at e
          obtain ⟨rfl, rfl⟩ := List.cons.inj e
          have hL := hW.labs (hr l (List.mem_cons_self ..))
          obtain ⟨d, hd, hdl⟩ := hr l (List.mem_cons_self ..)
          have hk : l ∈ ks := (hks l).2 (by rw [prs, List.map_map]; exact hdl ▸ List.mem_map_of_mem hd)
          obtain ⟨zs, rfl⟩ := hL.tup
          walk_at "put2"
          walk_at "go"
          refine ow_niL (.inr rfl) (Nat.le_trans hL.dep (by omega)) ?_
          rw [any_self hk hL.key]
          walk_at "go"
          exact ⟨pre + 1, rest, _, _, rfl, rfl, rfl, fun l hl => hr l (List.mem_cons_of_mem _ hl)⟩
def nm_kids_of : List Str := ["plain", "labels", "tree"]
theorem sc_kids_of : FnScope nm_kids_of ["plain", "labels", "tree"] (defScope s_kids_of) := ⟨rfl, rfl, rfl, by decide +kernel, rfl, by decide +kernel, by decide +kernel⟩
/- slots of kids_of: 0 plain, 1 labels, 2 tree -/
theorem ok_kids_of (B : Bs K mg) (H_is_among : Fn P w K mg base ns "is_among" 1 ["thing", "least", "most"] [] sp_is_among) : Fn P w K mg base ns "kids_of" (1 + 1) ["plain", "labels", "tree"] [] sp_kids_of := by
  obtain ⟨fd, F⟩ := B.says.def_ 12 (d := d_kids_of) rfl
  refine ⟨_, fd, _, okD (ns := ns) F sc_kids_of (fun rs n Q h => ?len) (fun cdv A outer s H E hr => ⟨_, PSs.nox (pss_cons (ps_if (PW.pt (pw_and (pt_val (pe_callB call_isi (by rfl) (B.free 42 _ rfl) (by decide +kernel) (pa_cons (pv 2) (pa_cons (pe_bltn (v := .ty "tuple") (by rfl) (B.free 50 _ rfl) (by decide +kernel) rfl) pa_nil)))) (pw_and (pt_cmpR op_gt (pe_callB call_lenA (by rfl) (B.free 43 _ rfl) PySem.boot_len (pa_cons (pv 2) pa_nil)) pe_int (nomark _)) (pw_and1 (pt_val (pe_callB call_isi (by rfl) (B.free 42 _ rfl) (by decide +kernel) (pa_cons (pe_ix (ixA hr.units) (pv 2) pe_int (fun _ _ => rfl)) (pa_cons (pe_bltn (v := .ty "str") (by rfl) (B.free 49 _ rfl) (by decide +kernel) rfl) pa_nil)))))))) (pss_cons (ps_if (PW.pt (pw_and (pt_cmpR (op_eqM hr.units) (pe_ix (ixA hr.units) (pv 2) pe_int (fun _ _ => rfl)) pe_str (nomark _)) (pw_and1 (pt_cmpR (op_eqM hr.units) (pe_callB call_lenA (by rfl) (B.free 43 _ rfl) PySem.boot_len (pa_cons (pv 2) pa_nil)) pe_int (nomark _))))) (pss_one (ps_ret (pe_lst pa_nil))) pss_nil)
      (pss_cons (ps_if (PW.pt (pw_and (pt_cmpR (op_eqM hr.units) (pe_ix (ixA hr.units) (pv 2) pe_int (fun _ _ => rfl)) pe_str (nomark _)) (pw_and (pt_cmpR (op_eqM hr.units) (pe_callB call_lenA (by rfl) (B.free 43 _ rfl) PySem.boot_len (pa_cons (pv 2) pa_nil)) pe_int (nomark _)) (pw_and (pt_val (pe_callB call_isi (by rfl) (B.free 42 _ rfl) (by decide +kernel) (pa_cons (pe_ix (ixA hr.units) (pv 2) pe_int (fun _ _ => rfl)) (pa_cons (pe_bltn (v := .ty "tuple") (by rfl) (B.free 50 _ rfl) (by decide +kernel) rfl) pa_nil)))) (pw_and1 (pt_cmpR (op_inM hr.units) (pe_ix (ixA hr.units) (pv 2) pe_int (fun _ _ => rfl)) (pv 1) (by rfl))))))) (pss_one (ps_ret (pe_lst (pa_cons (pe_ix (ixA hr.units) (pv 2) pe_int (fun _ _ => rfl)) pa_nil)))) pss_nil)
      (pss_one (ps_if (PW.pt (pw_and (pt_cmpR (op_eqM hr.units) (pe_ix (ixA hr.units) (pv 2) pe_int (fun _ _ => rfl)) pe_str (nomark _)) (pw_and (pt_cmpR (op_eqM hr.units) (pe_callB call_lenA (by rfl) (B.free 43 _ rfl) PySem.boot_len (pa_cons (pv 2) pa_nil)) pe_int (nomark _)) (pw_and1 (pt_val (pe_fn H_is_among (hr.mono (by omega)) (by rfl) (pa_cons (pe_ix (ixA hr.units) (pv 2) pe_int (fun _ _ => rfl)) (pa_cons pe_int (pa_cons (pe_op op_sub (pe_callB call_lenA (by rfl) (B.free 43 _ rfl) PySem.boot_len (pa_cons (pe_ix (ixA hr.units) (pv 0) pe_int (fun _ _ => rfl)) pa_nil)) pe_int) pa_nil))))))))) (pss_one (ps_ret (pe_lst (pa_cons (pe_ix (ixA hr.units) (pv 2) pe_int (fun _ _ => rfl)) (pa_cons (pe_ix (ixA hr.units) (pv 2) pe_int (fun _ _ => rfl)) pa_nil))))) pss_nil)))) pss_nil)
      (pss_one ps_never)), fun rs n Q h => ?walk⟩), B.glo 12 _ rfl, F.kp, .nil, F.bindsN fun _ _ _ _ _ _ us hl => match us, hl with | [_, _, _], _ => rfl⟩
  case len =>
    obtain ⟨_, _, rfl, _⟩ := h
    rfl
  case walk =>
    obtain ⟨W, t, rfl, hW, ht, hQ⟩ := h
    cases t with
    | done =>
      show SW _ _ [.d W.enc, .r _, .d (.tuple [.str "done"])] n _
      dsimp only [cxOf]
      walk_at "go"
      exact hQ
    | doo l t =>
      show SW _ _ [.d W.enc, .r _, .d (.tuple [.str "do", l, t.enc])] n _
      dsimp only [cxOf]
      walk_at "go"
      have hL := hW.labs ht.1
      have hm : l ∈ W.deeds.map Deed.lab := let ⟨d, hd, e⟩ := ht.1; e ▸ List.mem_map_of_mem hd
      obtain ⟨ks, rfl⟩ := hL.tup
      walk_at "go"
      refine ow_inL (.inr rfl) (Nat.le_trans hL.dep (by omega)) ?_
      rw [any_self hm hL.key]
      walk_at "go"
      exact hQ
    | ask k a b =>
      show SW _ _ [.d W.enc, .r _, .d (.tuple [.str "ask", .int (k : Nat), a.enc, b.enc])] n _
      dsimp only [cxOf]
      walk_at "go"
      refine ⟨_, _, _, rfl, ?_⟩
      have h1 := ht.1
      rw [decide_eq_true (show (0 : Int) ≤ (k : Nat) by omega), decide_eq_true (show ((k : Nat) : Int) ≤ (W.atoms.length : Nat) - 1 by omega)]
      walk_at "go"
      exact hQ
def nm_tree_of : List Str := ["plain", "plan", "found", "label"]
theorem sc_tree_of : FnScope nm_tree_of ["plain", "plan"] (defScope s_tree_of) := ⟨rfl, rfl, rfl, by decide +kernel, rfl, by decide +kernel, by decide +kernel⟩
/- slots of tree_of: 0 plain, 1 plan, 2 found, 3 label -/
theorem ok_tree_of (B : Bs K mg) (H_need_plan : Fn P w K mg base ns "need_plan" 2 ["plain", "plan", "most"] [.int 12] sp_need_plan) : Fn P w K mg base ns "tree_of" (2 + 1) ["plain", "plan"] [] sp_tree_of := by
  obtain ⟨fd, F⟩ := B.says.def_ 11 (d := d_tree_of) rfl
  refine ⟨_, fd, _, okD (ns := ns) F sc_tree_of (fun rs n Q h => ?len) (fun cdv A outer s H E hr => ⟨_, PSs.nox (pss_cons (ps_expr (pe_fn H_need_plan (hr.mono (by omega)) (by rfl) (pa_cons (pv 0) (pa_cons (pv 1) pa_nil))))
      (pss_cons (ps_set (i := 2) sc_tree_of.nd rfl (.inl rfl) (pe_tup (pa_cons pe_str pa_nil)))
      (pss_cons (ps_for PassesOwn.never rfl (RT.pi_revA (by rfl) (B.free 48 _ rfl) (pv 1)) (pg_name (i := 3) sc_tree_of.nd rfl (.inl rfl)) (pss_one (ps_set (i := 2) sc_tree_of.nd rfl (.inl rfl) (pe_tup (pa_cons pe_str (pa_cons (pv 3) (pa_cons (pv 2) pa_nil)))))))
      (pss_one (ps_ret (pv 2)))))), fun rs n Q h => ?walk⟩), B.glo 11 _ rfl, F.kp, .nil, F.bindsN fun _ _ _ _ _ _ us hl => match us, hl with | [_, _], _ => rfl⟩
  case len =>
    obtain ⟨_, _, rfl, _⟩ := h
    rfl
  case walk =>
    obtain ⟨W, ls, rfl, hW, hl, hm, hQ⟩ := h
    show SW _ _ [.d W.enc, .d (.tuple ls), .u, .u] n _
    dsimp only [cxOf]
    walk_at "go"
    refine ⟨W, ls, rfl, hW, hl, hm, fun xs => ⟨rfl, ?_⟩⟩
    walk_at "go"
    refine loop_inv (fun ds G n' => ∃ acc a, ls = ds.reverse ++ acc ∧ G = [.d W.enc, .d (.tuple ls), .d (treeOf acc).enc, a] ∧ n' = n) ?_ ?_ _ _ _ ⟨[], _, by rw [List.reverse_reverse, List.append_nil], rfl, rfl⟩
    · rintro G n' ⟨acc, a, e, rfl, rfl⟩
      walk_at "go"
      rw [e] at hQ
      exact hQ
    · rintro x ds G n' ⟨acc, a, e, rfl, rfl⟩
      walk_at "put1"
      walk_at "go"
      refine ⟨x :: acc, _, ?_, rfl, rfl⟩
      rw [e, List.reverse_cons, List.append_assoc]
      rfl
end
end Dd
set_option Elab.async false
set_option linter.all false
set_option maxRecDepth 100000
set_option autoImplicit false
set_option maxHeartbeats 1000000
/-! Pd: open facts, worlds, trees' needs. -/
namespace Dd
open PySem PySem.Spec PyProof.Rows L2 Dl
local macro_rules | `(tactic| walk_at "dx.var") => `(tactic| ((with_reducible show EW _ (tVar _) _ _ _); first
  | (refine ew_varD rfl ?_) | (refine ew_varR rfl ?_) | (refine ew_varL rfl ?_) | (refine ew_varW rfl ?_) | (refine ew_varS rfl ?_) | (refine ew_varT rfl ?_)))
local macro_rules | `(tactic| walk_at "dx.ew") => `(tactic| first
  | (walk_at "dx.var")
  | (with_reducible refine ew_int ?_) | ((with_reducible refine ew_str ?hh ?_); (case hh => decide +kernel)) | (with_reducible refine ew_bl ?_) | (with_reducible refine ew_non ?_)
  | ((with_reducible show EW _ (tOp (rIxA _ _) (tVar _) (tC (.int 0))) _ _ _); refine ew_w0 rfl ?_) | ((with_reducible show EW _ (tOp (rIxA _ _) (tVar _) (tC (.int 1))) _ _ _); refine ew_w1 rfl ?_)
  | (with_reducible refine ew_op ?_) | (with_reducible refine ew_un ?_) | (with_reducible refine ew_tupE ?_) | (with_reducible refine ew_lstE ?_) | (with_reducible refine ew_isi ?_) | (with_reducible refine ew_cb ?_)
  | (with_reducible refine ew_andV ?_) | (with_reducible refine ew_orV ?_) | (with_reducible refine ew_notV ?_) | (with_reducible refine ew_call ?_) | (with_reducible refine ew_callD ?_) | ((with_reducible refine ew_lc1 ?hq ?_); (case hq => exact rfl)) | ((with_reducible refine ew_lc2 ?hq ?hq2 ?_); (case hq => exact rfl); (case hq2 => exact rfl)) | (with_reducible refine ew_if ?_) | (with_reducible refine ew_chain ?_) | (with_reducible refine ew_sl ?_) | (with_reducible refine ew_bmS ?_) | (with_reducible refine ew_back ?_))
local macro_rules | `(tactic| walk_at "dx.ow") => `(tactic| first
  | (with_reducible refine ow_addI ?_) | (with_reducible refine ow_eqI ?_) | (with_reducible refine ow_eqS ?_) | (with_reducible refine ow_neI ?_) | (with_reducible refine ow_neS ?_) | (with_reducible refine ow_neN (.inr rfl) (.inl rfl) ?_) | (with_reducible refine ow_eqN (.inr rfl) (.inl rfl) ?_) | ((with_reducible refine ow_inT ?hmm ?_); (case hmm => exact Nat.le_of_ble_eq_true rfl)) | (with_reducible refine ow_isN ?_) | (with_reducible refine ow_noN ?_)
  | (with_reducible refine ow_intB ?_) | (with_reducible refine ow_int ?_) | ((with_reducible refine ow_intC ?hc ?_); (case hc => first | decide | omega))
  | ((with_reducible show OW _ (rIxA _ _) _ _ _); refine ow_ixT rfl ?_))
local macro_rules | `(tactic| walk_at "dx.sw") => `(tactic| first
  | (walk_at "dx.for") | (with_reducible refine sw_seq ?_) | (with_reducible refine sw_next ?_) | ((with_reducible show SW _ (tDrop (tCall _ _ _ _)) _ _ _); refine sw_expr ?_) | (with_reducible refine sw_cont ?_) | (with_reducible refine sw_ret ?_) | (with_reducible refine sw_retN ?_) | (with_reducible refine sw_if ?_)
  | ((with_reducible show SW _ (tAsg (tBM0 _ _ rPop (tVar _)) _) _ _ _); refine sw_pop2 (Nat.le_of_ble_eq_true rfl) (Nat.le_of_ble_eq_true rfl) rfl ?_; dsimp only [List.set])
  | ((with_reducible show SW _ (tDrop (tBM _ _ rExtend _ _)) _ _ _); refine sw_extend rfl ?_) | ((with_reducible show SW _ (tDrop (tBM0 _ _ rReverse _)) _ _ _); refine sw_reverse rfl ?_)
  | ((with_reducible show SW _ (tAsg _ (gSub (tVar _) _ _)) _ _ _); first | (refine sw_draw rfl ?_) | (refine sw_store rfl ?_))
  | ((with_reducible refine sw_set ?hi ?_); (case hi => exact Nat.le_of_ble_eq_true rfl))
  | ((with_reducible refine sw_par ?hi ?hj ?_); (case hi => exact Nat.le_of_ble_eq_true rfl); (case hj => exact Nat.le_of_ble_eq_true rfl); dsimp only [List.set])
  | ((with_reducible refine sw_asg2 ?hi ?hj ?_); (case hi => exact Nat.le_of_ble_eq_true rfl); (case hj => exact Nat.le_of_ble_eq_true rfl); dsimp only [List.set])
  | ((with_reducible refine sw_asg3 ?hi ?hj ?hk ?_); (case hi => exact Nat.le_of_ble_eq_true rfl); (case hj => exact Nat.le_of_ble_eq_true rfl); (case hk => exact Nat.le_of_ble_eq_true rfl); dsimp only [List.set])
  | ((with_reducible refine sw_aug (a := ?aa) ?hi ?_); (case hi => exact rfl); dsimp only [List.set]))
local macro_rules | `(tactic| walk_at "dx.for") => `(tactic| first
  | (with_reducible refine sw_for1 ?_) | (with_reducible refine sw_for2 ?_))
local macro_rules | `(tactic| walk_at "dx.misc") => `(tactic| first
  | (with_reducible refine ea_cons ?_) | (with_reducible refine ea_nil ?_)
  | (with_reducible refine tw_test ?_) | (with_reducible refine tw_B ?_) | (with_reducible refine tw_and ?_) | (with_reducible refine tw_or ?_) | (with_reducible refine tw_not ?_) | (with_reducible refine tw_yes ?_)
  | (with_reducible refine wi_tup ?_) | (with_reducible refine wi_enumT ?_) | (with_reducible refine wi_zipT ?_) | (with_reducible refine wi_rev ?_) | (with_reducible refine wi_range ?_) | (refine wi_enum rfl ?_) | (refine wi_var rfl ?_) | ((with_reducible show WI _ (iList _ (tCall _ _ _ _)) _ _ _); refine wi_new ?_) | (with_reducible refine uw_int ?_) | (with_reducible refine op_no ?_) | (with_reducible refine op_int ?_)
  | ((with_reducible show Br (decide ((_ : Int) < _)) _ _); first | (refine br_t rfl ?_) | (refine br_f rfl ?_)) | ((with_reducible show Br (decide ((_ : Int) ≤ _)) _ _); first | (refine br_t rfl ?_) | (refine br_f rfl ?_)) | ((with_reducible show Br (decide ((_ : Int) = _)) _ _); first | (refine br_t rfl ?_) | (refine br_f rfl ?_)) | ((with_reducible show Br (!decide ((_ : Int) = _)) _ _); first | (refine br_t rfl ?_) | (refine br_f rfl ?_))
  | ((with_reducible show Br (isNone _) _ _); first | (refine br_t rfl ?_) | (refine br_f rfl ?_)) | ((with_reducible show Br (!isNone _) _ _); first | (refine br_t rfl ?_) | (refine br_f rfl ?_))
  | ((with_reducible show Br true _ _); refine br_t rfl ?_) | ((with_reducible show Br false _ _); refine br_f rfl ?_) | (refine br_t (by decide +kernel) ?_) | (refine br_f (by decide +kernel) ?_)
  | (with_reducible refine cw_lenT ?_) | (with_reducible refine cw_listT ?_) | (with_reducible refine cw_tupL (.inr rfl) ?_) | (with_reducible refine cw_tupL (.inl rfl) ?_) | (with_reducible refine cw_lenL (.inr rfl) ?_) | (with_reducible refine cw_lenL (.inl rfl) ?_) | (with_reducible refine cw_lenW ?_)
  | (refine ⟨_, _, rfl, kit_ii, ?_⟩) | (refine ⟨_, _, rfl, kit_ib, ?_⟩) | (refine ⟨_, _, rfl, kit_tt, ?_⟩) | (refine ⟨_, _, rfl, kit_ss, ?_⟩)
  | (with_reducible refine ⟨_, rfl, ?_⟩) | (refine ⟨_, rfl, Nat.le_of_ble_eq_true rfl, ?_⟩) | (with_reducible refine ⟨_, _, rfl, ?_⟩) | (with_reducible refine ⟨_, _, _, rfl, ?_⟩) | ((with_reducible refine ⟨(fun _ z => nomatch z), ?_⟩); dsimp only [List.set]) | (refine ⟨_, _, rfl, by decide +kernel, ?_⟩) | (refine ⟨Nat.le_of_ble_eq_true rfl, ?_⟩) | (with_reducible refine ⟨rfl, ?_⟩) | dsimp only)
local macro_rules | `(tactic| walk_at "dx") => `(tactic| first
  | ((with_reducible show EW _ _ _ _ _); walk_at "dx.ew") | ((with_reducible show SW _ _ _ _ _); walk_at "dx.sw") | ((with_reducible show OW _ _ _ _ _); walk_at "dx.ow") | (walk_at "dx.misc"))
local macro_rules | `(tactic| walk_at "go") => `(tactic| repeat walk_at "dx")
local macro_rules | `(tactic| walk_at "put1") => `(tactic| (refine ⟨Nat.le_of_ble_eq_true rfl, _, rfl, ?_⟩; dsimp only [wipeG, List.map, List.set]))
local macro_rules | `(tactic| walk_at "put2") => `(tactic| (refine ⟨⟨Nat.le_of_ble_eq_true rfl, Nat.le_of_ble_eq_true rfl⟩, _, rfl, ?_⟩; dsimp only [wipeG, List.map, List.set]))
def rises (hi : Nat) : Nat → List Nat → Prop
  | _, [] => True
  | lo, f :: r => lo ≤ f ∧ f < hi ∧ rises hi (f + 1) r
abbrev natD (k : Nat) : PyData := .int (k : Nat)
def sp_need_facts : DSpec := fun rs n Q => ∃ (W : Wd) (fs : List Nat), rs = [.d W.enc, .d (.tuple (fs.map natD))] ∧ fs.length ≤ 6 ∧ rises W.atoms.length 0 fs ∧ Q (.d .none) n
def sp_worlds_of : DSpec := fun rs n Q => ∃ (W : Wd) (fs : List Nat), rs = [.d W.enc, .d (.tuple (fs.map natD))] ∧ WdOk W ∧ fs.length ≤ 5 ∧ rises W.atoms.length 0 fs ∧ ∀ sts : List Sta, sts.length = 2 ^ fs.length → (∀ s ∈ sts, StaIn W s) → Q (.d (.tuple (sts.map Sta.enc))) n
def sp_need_states : DSpec := fun rs n Q => ∃ (W : Wd) (sts : List Sta), rs = [.d W.enc, .d (.tuple (sts.map Sta.enc))] ∧ WdOk W ∧ 1 ≤ sts.length ∧ sts.length ≤ 64 ∧ (∀ s ∈ sts, StaIn W s) ∧ Q (.d .none) n
def sp_need_tree : DSpec := fun rs n Q => ∃ (W : Wd) (t : Tree), rs = [.d W.enc, .d t.enc] ∧ WdOk W ∧ t.ok W ∧ t.deep ≤ 20 ∧ t.size ≤ 200 ∧ Q (.d .none) n
def pk (p : Tree × Nat) : PyData := .tuple [p.1.enc, .int (p.2 : Nat)]
def sizes : List (Tree × Nat) → Nat
  | [] => 0
  | p :: r => p.1.size + sizes r
theorem sizes_app : ∀ a b : List (Tree × Nat), sizes (a ++ b) = sizes a + sizes b
  | [], b => (Nat.zero_add _).symm
  | p :: a, b => by
    show p.1.size + sizes (a ++ b) = p.1.size + sizes a + sizes b
    rw [sizes_app a b]
    omega
theorem size_pos (t : Tree) : 1 ≤ t.size := by cases t <;> simp [Tree.size]
theorem sizes_ge : ∀ a : List (Tree × Nat), a.length ≤ sizes a
  | [] => Nat.le_refl _
  | p :: a => by
    have := size_pos p.1
    have := sizes_ge a
    show a.length + 1 ≤ p.1.size + sizes a
    omega
theorem kids_size (t : Tree) (k : Nat) : sizes ((kids t).map fun c => (c, k)) + 1 = t.size := by cases t <;> simp [kids, sizes, Tree.size]
theorem kids_deep (t : Tree) : ∀ c ∈ kids t, c.deep + 1 ≤ t.deep := by
  cases t with
  | done => intro c h; cases h
  | doo l t =>
    intro c h
    rw [List.mem_singleton.1 h]
    exact Nat.le_refl _
  | ask k a b =>
    intro c h
    have : c = a ∨ c = b := by simpa [kids] using h
    show _ ≤ max a.deep b.deep + 1
    rcases this with rfl | rfl <;> omega
theorem kids_ok {W : Wd} {t : Tree} (o : t.ok W) : ∀ c ∈ kids t, c.ok W := by
  cases t with
  | done => intro c h; cases h
  | doo l t =>
    intro c h
    rw [List.mem_singleton.1 h]
    exact o.2
  | ask k a b =>
    intro c h
    have : c = a ∨ c = b := by simpa [kids] using h
    rcases this with rfl | rfl
    · exact o.2.1
    · exact o.2.2
section
variable {P : Program} {w : World} {K : PySem.W.Frag} {mg : Str → Option Value} {base : Heap} {ns : List Int} {k m : Nat}
def nm_need_facts : List Str := ["plain", "some", "least", "fact"]
theorem sc_need_facts : FnScope nm_need_facts ["plain", "some"] (defScope s_need_facts) := ⟨rfl, rfl, rfl, by decide +kernel, rfl, by decide +kernel, by decide +kernel⟩
/- slots of need_facts: 0 plain, 1 some, 2 least, 3 fact -/
theorem ok_need_facts (B : Bs K mg) (H_is_among : Fn P w K mg base ns "is_among" 1 ["thing", "least", "most"] [] sp_is_among) : Fn P w K mg base ns "need_facts" (1 + 1) ["plain", "some"] [] sp_need_facts := by
  obtain ⟨fd, F⟩ := B.says.def_ 9 (d := d_need_facts) rfl
  refine ⟨_, fd, _, okD (ns := ns) F sc_need_facts (fun rs n Q h => ?len) (fun cdv A outer s H E hr => ⟨_, PSs.nox (pss_cons (ps_if (PW.pt (pw_or (pt_not (pt_val (pe_callB call_isi (by rfl) (B.free 42 _ rfl) (by decide +kernel) (pa_cons (pv 1) (pa_cons (pe_bltn (v := .ty "tuple") (by rfl) (B.free 50 _ rfl) (by decide +kernel) rfl) pa_nil))))) (pw_or1 (pt_cmpR op_gt (pe_callB call_lenA (by rfl) (B.free 43 _ rfl) PySem.boot_len (pa_cons (pv 1) pa_nil)) (pe_k (by rfl) (B.int 52 _ _ rfl)) (nomark _))))) (pss_one ps_never) pss_nil)
      (pss_cons (ps_set (i := 2) sc_need_facts.nd rfl (.inl rfl) pe_int)
      (pss_one (ps_for PassesOwn.never rfl (pi_tup (pv 1)) (pg_name (i := 3) sc_need_facts.nd rfl (.inl rfl)) (pss_cons (ps_if (pt_not (pt_val (pe_fn H_is_among (hr.mono (by omega)) (by rfl) (pa_cons (pv 3) (pa_cons (pv 2) (pa_cons (pe_op op_sub (pe_callB call_lenA (by rfl) (B.free 43 _ rfl) PySem.boot_len (pa_cons (pe_ix (ixA hr.units) (pv 0) pe_int (fun _ _ => rfl)) pa_nil)) pe_int) pa_nil)))))) (pss_one ps_never) pss_nil)
      (pss_one (ps_set (i := 2) sc_need_facts.nd rfl (.inl rfl) (pe_op op_plus (pv 3) pe_int)))))))), fun rs n Q h => ?walk⟩), B.glo 9 _ rfl, F.kp, .nil, F.bindsN fun _ _ _ _ _ _ us hl => match us, hl with | [_, _], _ => rfl⟩
  case len =>
    obtain ⟨_, _, rfl, _⟩ := h
    rfl
  case walk =>
    obtain ⟨W, fs, rfl, hl, hr, hQ⟩ := h
    show SW _ _ [.d W.enc, .d (.tuple (fs.map natD)), .u, .u] n _
    dsimp only [cxOf]
    walk_at "go"
    rw [List.length_map]
    refine br_f (decide_eq_false (by omega)) ?_
    walk_at "go"
    refine loop_inv (fun ds G n' => ∃ (lo : Nat) (r : List Nat) (a : Rs), ds = r.map natD ∧ G = [.d W.enc, .d (.tuple (fs.map natD)), .d (.int (lo : Nat)), a] ∧ n' = n ∧ rises W.atoms.length lo r) ?_ ?_ _ _ _ ⟨0, fs, _, rfl, rfl, rfl, hr⟩
    · rintro G n' ⟨lo, r, a, e, rfl, rfl, _⟩
      walk_at "go"
      exact hQ
    · rintro x ds G n' ⟨lo, r, a, e, rfl, rfl, hr⟩
      cases r with
      | nil => cases e
      | cons f r =>
        rw [List.map_cons] at e
        obtain ⟨rfl, rfl⟩ := List.cons.inj e
        obtain ⟨h1, h2, h3⟩ := hr
        walk_at "put1"
        walk_at "go"
        refine ⟨(f : Nat), _, _, rfl, ?_⟩
        rw [decide_eq_true (show ((lo : Nat) : Int) ≤ (f : Nat) by omega), decide_eq_true (show ((f : Nat) : Int) ≤ (W.atoms.length : Nat) - 1 by omega)]
        walk_at "go"
        exact ⟨f + 1, r, _, rfl, by rw [Int.natCast_add]; rfl, rfl, h3⟩
def nm_need_states : List Str := ["plain", "some", "state"]
theorem sc_need_states : FnScope nm_need_states ["plain", "some"] (defScope s_need_states) := ⟨rfl, rfl, rfl, by decide +kernel, rfl, by decide +kernel, by decide +kernel⟩
/- slots of need_states: 0 plain, 1 some, 2 state -/
theorem ok_need_states (B : Bs K mg) (H_need_state : Fn P w K mg base ns "need_state" 3 ["plain", "thing"] [] sp_need_state) : Fn P w K mg base ns "need_states" (3 + 1) ["plain", "some"] [] sp_need_states := by
  obtain ⟨fd, F⟩ := B.says.def_ 14 (d := d_need_states) rfl
  refine ⟨_, fd, _, okD (ns := ns) F sc_need_states (fun rs n Q h => ?len) (fun cdv A outer s H E hr => ⟨_, PSs.nox (pss_cons (ps_if (PW.pt (pw_or (pt_not (pt_val (pe_callB call_isi (by rfl) (B.free 42 _ rfl) (by decide +kernel) (pa_cons (pv 1) (pa_cons (pe_bltn (v := .ty "tuple") (by rfl) (B.free 50 _ rfl) (by decide +kernel) rfl) pa_nil))))) (pw_or1 (pt_not (pt_chain op_le op_le pe_int (pe_callB call_lenA (by rfl) (B.free 43 _ rfl) PySem.boot_len (pa_cons (pv 1) pa_nil)) (pe_k (by rfl) (B.int 55 _ _ rfl))))))) (pss_one ps_never) pss_nil)
      (pss_one (ps_for PassesOwn.never rfl (pi_tup (pv 1)) (pg_name (i := 2) sc_need_states.nd rfl (.inl rfl)) (pss_one (ps_expr (pe_fn H_need_state (hr.mono (by omega)) (by rfl) (pa_cons (pv 0) (pa_cons (pv 2) pa_nil)))))))), fun rs n Q h => ?walk⟩), B.glo 14 _ rfl, F.kp, .nil, F.bindsN fun _ _ _ _ _ _ us hl => match us, hl with | [_, _], _ => rfl⟩
  case len =>
    obtain ⟨_, _, rfl, _⟩ := h
    rfl
  case walk =>
    obtain ⟨W, sts, rfl, hW, h1, h2, hs, hQ⟩ := h
    show SW _ _ [.d W.enc, .d (.tuple (sts.map Sta.enc)), .u] n _
    dsimp only [cxOf]
    walk_at "go"
    rw [List.length_map]
    refine br_t (decide_eq_true (by omega)) ?_
    walk_at "go"
    refine br_f (by rw [decide_eq_true (by omega)]; rfl) ?_
    walk_at "go"
    refine loop_inv (fun ds G n' => ∃ (r : List Sta) (a : Rs), ds = r.map Sta.enc ∧ G = [.d W.enc, .d (.tuple (sts.map Sta.enc)), a] ∧ n' = n ∧ ∀ s ∈ r, StaIn W s) ?_ ?_ _ _ _ ⟨sts, _, rfl, rfl, rfl, hs⟩
    · rintro G n' ⟨r, a, e, rfl, rfl, _⟩
      exact hQ
    · rintro x ds G n' ⟨r, a, e, rfl, rfl, hr⟩
      cases r with
      | nil => cases e
      | cons s r =>
        rw [List.map_cons] at e
        obtain ⟨rfl, rfl⟩ := List.cons.inj e
        walk_at "put1"
        walk_at "go"
        have := hW.atoms
        have := hW.cnts
        refine ⟨W, s, rfl, by omega, by omega, hr s (List.mem_cons_self ..), ?_⟩
        walk_at "go"
        exact ⟨r, _, rfl, rfl, rfl, fun s hs => hr s (List.mem_cons_of_mem _ hs)⟩
def nm_need_tree : List Str := ["plain", "thing", "labels", "many", "pile", "tree", "deep", "deed", "kid"]
theorem sc_need_tree : FnScope nm_need_tree ["plain", "thing"] (defScope s_need_tree) := ⟨rfl, rfl, rfl, by decide +kernel, rfl, by decide +kernel, by decide +kernel⟩
/- slots of need_tree: 0 plain, 1 thing, 2 labels, 3 many, 4 pile, 5 tree, 6 deep, 7 deed, 8 kid -/
theorem ok_need_tree (B : Bs K mg) (H_kids_of : Fn P w K mg base ns "kids_of" 2 ["plain", "labels", "tree"] [] sp_kids_of) : Fn P w K mg base ns "need_tree" (2 + 1) ["plain", "thing"] [] sp_need_tree := by
  obtain ⟨fd, F⟩ := B.says.def_ 13 (d := d_need_tree) rfl
  refine ⟨_, fd, _, okD (ns := ns) F sc_need_tree (fun rs n Q h => ?len) (fun cdv A outer s H E hr => ⟨_, PSs.nox (pss_cons (ps_setLc (i := 2) (own := [("deed", 7)]) (g := gName 7) (tt := tYes) (te := (tOp (rIxA K w) (tVar 7) (tC (V.int 0)))) rfl sc_need_tree.nd rfl rfl (sw_true rfl rfl rfl (by decide +kernel)) (pi_tup (pe_ix (ixA hr.units) (pv 0) pe_int (fun _ _ => rfl))) (blkOk_by (own := [("deed", 7)]) (N := nm_need_tree) (sc := defScope s_need_tree) (by decide +kernel)) (fun _ _ _ _ _ => (pg_name (i := 7) sc_need_tree.nd rfl (.inl rfl))) (fun _ _ _ _ _ => pts_nil) (fun _ _ _ _ _ => (pe_ix (ixA hr.units) (pv 7) pe_int (fun _ _ => rfl))))
      (pss_cons (ps_set (i := 3) sc_need_tree.nd rfl (.inl rfl) pe_int)
      (pss_cons (ps_set (i := 4) sc_need_tree.nd rfl (.inl rfl) (pe_lst (pa_cons (pe_tup (pa_cons (pv 1) (pa_cons pe_int pa_nil))) pa_nil)))
      (pss_one (ps_while PassesOwn.never (pt_cmpR (op_neM hr.units) (pv 4) (pe_lst pa_nil) (nomark _)) (pss_cons (ps_asg (pe_bm0 PySem.F.plainAttrs_list PySem.F.slot_list_pop PySem.F.type_list_pop mt_pop (pv 4)) (pg_tup (n := 2) rfl (pgs_cons (pg_name (i := 5) sc_need_tree.nd rfl (.inl rfl)) (pgs_cons (pg_name (i := 6) sc_need_tree.nd rfl (.inr rfl)) pgs_nil))))
      (pss_cons (ps_aug (i := 3) sc_need_tree.nd rfl (.inl rfl) pe_int ip_add)
      (pss_cons (ps_if (PW.pt (pw_or (pt_cmpR op_gt (pv 6) (pe_k (by rfl) (B.int 53 _ _ rfl)) (nomark _)) (pw_or1 (pt_cmpR op_gt (pv 3) (pe_k (by rfl) (B.int 54 _ _ rfl)) (nomark _))))) (pss_one ps_never) pss_nil)
      (pss_one (ps_expr (pe_bm PySem.F.plainAttrs_list PySem.F.slot_list_extend PySem.F.type_list_extend mt_extend (pv 4) (pa_cons (pe_lc (own := [("kid", 8)]) (g := gName 8) (tt := tYes) (te := (tTup (tCons (tVar 8) (tCons (tOp (rPlus K) (tVar 6) (tC (V.int 1))) tNil)))) rfl sc_need_tree.nd (pi_list (pe_fn H_kids_of (hr.mono (by omega)) (by rfl) (pa_cons (pv 0) (pa_cons (pv 2) (pa_cons (pv 5) pa_nil))))) (blkOk_by (own := [("kid", 8)]) (N := nm_need_tree) (sc := defScope s_need_tree) (by decide +kernel)) (fun _ _ _ _ _ => (pg_name (i := 8) sc_need_tree.nd rfl (.inl rfl))) (fun _ _ _ _ _ => pts_nil) (fun _ _ _ _ _ => (pe_tup (pa_cons (pv 8) (pa_cons (pe_op op_plus (pv 6) pe_int) pa_nil))))) pa_nil)))))))))))), fun rs n Q h => ?walk⟩), B.glo 13 _ rfl, F.kp, .nil, F.bindsN fun _ _ _ _ _ _ us hl => match us, hl with | [_, _], _ => rfl⟩
  case len =>
    obtain ⟨_, _, rfl, _⟩ := h
    rfl
  case walk =>
    obtain ⟨W, t, rfl, hW, ht, hd, hz, hQ⟩ := h
    show SW _ _ [.d W.enc, .d t.enc, .u, .u, .u, .u, .u, .u, .u] n _
    dsimp only [cxOf]
    walk_at "go"
    refine ⟨by have := hW.dds; rw [List.length_map]; omega, comp_mapE Deed.enc Deed.lab _ _ (fun d hd => ?_) ?_⟩
    · walk_at "put1"
      walk_at "go"
    · walk_at "go"
      refine while_inv (fun m G n' => ∃ (ps : List (Tree × Nat)) (many : Int) (a b c d : Rs), G = [.d W.enc, .d t.enc, .l (W.deeds.map Deed.lab), .d (.int many), .l (ps.map pk), a, b, c, d] ∧ n' = n ∧ sizes ps = m ∧ (0 ≤ many ∧ many + m ≤ 200) ∧ ∀ p ∈ ps, p.1.ok W ∧ 1 ≤ p.2 ∧ p.2 + p.1.deep ≤ 21) ?_ t.size _ _
        ⟨[(t, 1)], 0, .u, .u, .u, .u, rfl, rfl, by simp [sizes], by omega, fun p hp => by
          rw [List.mem_singleton.1 hp]
          exact ⟨ht, Nat.le_refl _, by show 1 + t.deep ≤ 21; omega⟩⟩
      rintro m G n' ⟨ps, many, a, b, c, d, rfl, rfl, hsz, hmany, hps⟩
      walk_at "go"
      rcases List.eq_nil_or_concat ps with rfl | ⟨qs, p, rfl⟩
      · refine br_f rfl ?_
        walk_at "go"
        exact hQ
      · obtain ⟨tr, dp⟩ := p
        rw [List.concat_eq_append] at hps hsz ⊢
        obtain ⟨o1, o2, o3⟩ := hps (tr, dp) (by simp)
        rw [sizes_app] at hsz
        have sp := size_pos tr
        have e1 : sizes [(tr, dp)] = tr.size := by simp [sizes]
        have e2 : sizes ((kids tr).map fun c => (c, dp + 1)) + 1 = tr.size := kids_size tr _
        have dpos : 1 ≤ tr.deep := by cases tr <;> simp [Tree.deep]
        have o3 : dp + tr.deep ≤ 21 := o3
        rw [List.map_append]
        refine br_t (by simp) ?_
        refine ⟨sizes qs + sizes ((kids tr).map fun c => (c, dp + 1)), by omega, ?_⟩
        walk_at "go"
        refine br_f (decide_eq_false (by omega)) ?_
        walk_at "go"
        refine br_f (decide_eq_false (by omega)) ?_
        walk_at "go"
        refine ⟨W, tr, rfl, hW, o1, rfl, ?_⟩
        walk_at "go"
        have hk2 : (kids tr).length ≤ 2 := by cases tr <;> simp [kids]
        refine ⟨by rw [List.length_map]; omega, comp_mapE Tree.enc (fun c => pk (c, dp + 1)) _ _ (fun c hc => ?_) ?_⟩
        · walk_at "put1"
          walk_at "go"
          rfl
        · refine ⟨_, rfl, by rw [List.nil_append, List.length_map, List.length_map]; have hq : qs.length ≤ sizes qs := sizes_ge qs; omega, qs ++ (kids tr).map (fun c => (c, dp + 1)), many + 1, .d tr.enc, .d (.int (dp : Nat)), c, d, by rw [List.nil_append, List.map_append, List.map_map]; rfl, rfl, sizes_app _ _, by omega, fun p hp => ?_⟩
          · rcases List.mem_append.1 hp with hp | hp
            · exact hps p (List.mem_append_left _ hp)
            · obtain ⟨c, hc, rfl⟩ := List.mem_map.1 hp
              have := kids_deep tr c hc
              exact ⟨kids_ok o1 c hc, by omega, by show dp + 1 + c.deep ≤ 21; omega⟩
def nm_worlds_of : List Str := ["plain", "some", "found", "number", "bits", "place", "fact"]
theorem sc_worlds_of : FnScope nm_worlds_of ["plain", "some"] (defScope s_worlds_of) := ⟨rfl, rfl, rfl, by decide +kernel, rfl, by decide +kernel, by decide +kernel⟩
/- slots of worlds_of: 0 plain, 1 some, 2 found, 3 number, 4 bits, 5 place, 6 fact -/
theorem ok_worlds_of (B : Bs K mg) (H_need_facts : Fn P w K mg base ns "need_facts" 2 ["plain", "some"] [] sp_need_facts) : Fn P w K mg base ns "worlds_of" (2 + 1) ["plain", "some"] [] sp_worlds_of := by
  obtain ⟨fd, F⟩ := B.says.def_ 10 (d := d_worlds_of) rfl
  refine ⟨_, fd, _, okD (ns := ns) F sc_worlds_of (fun rs n Q h => ?len) (fun cdv A outer s H E hr => ⟨_, PSs.nox (pss_cons (ps_expr (pe_fn H_need_facts (hr.mono (by omega)) (by rfl) (pa_cons (pv 0) (pa_cons (pv 1) pa_nil))))
      (pss_cons (ps_set (i := 2) sc_worlds_of.nd rfl (.inl rfl) (pe_lst pa_nil))
      (pss_cons (ps_for PassesOwn.never rfl (pi_range1 (by rfl) (B.free 46 _ rfl) (pa_cons (pe_op op_shl pe_int (pe_callB call_lenA (by rfl) (B.free 43 _ rfl) PySem.boot_len (pa_cons (pv 1) pa_nil))) pa_nil)) (pg_name (i := 3) sc_worlds_of.nd rfl (.inl rfl)) (pss_cons (ps_set (i := 4) sc_worlds_of.nd rfl (.inl rfl) (pe_ix (ixA hr.units) (pe_ix (ixA hr.units) (pv 0) pe_int (fun _ _ => rfl)) pe_int (fun _ _ => rfl)))
      (pss_cons (ps_for PassesOwn.never rfl (pi_enumT (by rfl) (B.free 40 _ rfl) (pa_cons (pv 1) pa_nil)) (pg_tup (n := 2) rfl (pgs_cons (pg_name (i := 5) sc_worlds_of.nd rfl (.inl rfl)) (pgs_cons (pg_name (i := 6) sc_worlds_of.nd rfl (.inl rfl)) pgs_nil))) (pss_cons (ps_set (i := 4) sc_worlds_of.nd rfl (.inl rfl) (pe_op op_or (pv 4) (pe_op op_shl pe_int (pv 6))))
      (pss_one (ps_if (pt_cmpR (op_eqM hr.units) (pe_op op_and (pe_op op_shr (pv 3) (pv 5)) pe_int) pe_int (nomark _)) (pss_one (ps_set (i := 4) sc_worlds_of.nd rfl (.inl rfl) (pe_op op_xor (pv 4) (pe_op op_shl pe_int (pv 6))))) pss_nil))))
      (pss_one (ps_expr (pe_bm PySem.F.plainAttrs_list PySem.F.slot_list_append PySem.F.type_list_append mt_append (pv 2) (pa_cons (pe_tup (pa_cons (pv 4) (pa_cons (pe_ix (ixA hr.units) (pe_ix (ixA hr.units) (pv 0) pe_int (fun _ _ => rfl)) pe_int (fun _ _ => rfl)) pa_nil))) pa_nil)))))))
      (pss_one (ps_ret (pe_callTy call_tupA (by rfl) (B.free 50 _ rfl) (by decide +kernel) (pa_cons (pv 2) pa_nil))))))), fun rs n Q h => ?walk⟩), B.glo 10 _ rfl, F.kp, .nil, F.bindsN fun _ _ _ _ _ _ us hl => match us, hl with | [_, _], _ => rfl⟩
  case len =>
    obtain ⟨_, _, rfl, _⟩ := h
    rfl
  case walk =>
    obtain ⟨W, fs, rfl, hW, hl, hr, hQ⟩ := h
    show SW _ _ [.d W.enc, .d (.tuple (fs.map natD)), .u, .u, .u, .u, .u] n _
    dsimp only [cxOf]
    walk_at "go"
    refine ⟨W, fs, rfl, by omega, hr, ?_⟩
    walk_at "go"
    rw [List.length_map]
    have h32 : 2 ^ fs.length ≤ 2 ^ 5 := Nat.pow_le_pow_right (by decide) hl
    refine ow_intC ⟨by omega, by omega, by decide⟩ ?_
    walk_at "go"
    have e1 : (1 : Int) * 2 ^ (fs.length : Int).toNat = ((2 ^ fs.length : Nat) : Int) := by rw [Int.toNat_natCast, Int.one_mul, Int.natCast_pow]; rfl
    rw [e1]
    generalize 2 ^ fs.length = N at h32 hQ
    clear e1
    refine ⟨by omega, by omega, ?_⟩
    rw [Int.toNat_natCast]
    refine loop_inv (fun ds G n' => ∃ (sts : List Sta) (a b c d : Rs), G = [.d W.enc, .d (.tuple (fs.map natD)), .l (sts.map Sta.enc), a, b, c, d] ∧ n' = n ∧ sts.length + ds.length = N ∧ (∀ s ∈ sts, StaIn W s) ∧ ∀ x ∈ ds, ∃ z : Int, x = .int z) ?_ ?_ _ _ _ ⟨[], _, _, _, _, rfl, rfl, by rw [rangeD_len]; exact Nat.zero_add _, (fun s hs => by cases hs), fun x hx => ?_⟩
    · rintro G n' ⟨sts, a, b, c, d, rfl, rfl, hz, hs, _⟩
      walk_at "go"
      exact hQ sts hz hs
    · rintro x ds G n' ⟨sts, a, b, c, d, rfl, rfl, hz, hs, hx⟩
      obtain ⟨z, rfl⟩ := hx x (List.mem_cons_self ..)
      walk_at "put1"
      walk_at "go"
      refine loop_inv (fun es G n1 => ∃ (pre : Nat) (r : List Nat) (lo bits : Nat) (a b : Rs), es = enumD pre (r.map natD) ∧ G = [.d W.enc, .d (.tuple (fs.map natD)), .l (sts.map Sta.enc), .d (.int z), .d (.int (bits : Nat)), a, b] ∧ n1 = n' ∧ rises W.atoms.length lo r ∧ bits < 2 ^ W.atoms.length) ?_ ?_ _ _ _ ⟨0, fs, 0, W.start.bits, c, d, rfl, rfl, rfl, hr, hW.st0⟩
      · rintro G n' ⟨pre, r, lo, bits, a, b, _, rfl, rfl, _, hb⟩
        walk_at "go"
        rw [List.length_cons] at hz
        refine sw_append rfl (by rw [List.length_map]; omega) ?_
        walk_at "go"
        refine ⟨sts ++ [⟨bits, W.start.am⟩], _, _, _, _, by rw [List.map_append]; rfl, rfl, by rw [List.length_append]; show sts.length + 1 + _ = _; omega, fun s hs2 => ?_, fun x hx2 => hx x (List.mem_cons_of_mem _ hx2)⟩
        rcases List.mem_append.1 hs2 with hs2 | hs2
        · exact hs s hs2
        · rw [List.mem_singleton.1 hs2]
          exact ⟨hW.start, hb, hW.st1⟩
      · rintro y es G n' ⟨pre, r, lo, bits, a, b, e, rfl, rfl, hr, hb⟩
        cases r with
        | nil => cases e
        | cons f r =>
          rw [List.map_cons, enumD] at e
          obtain ⟨rfl, rfl⟩ := List.cons.inj e
          obtain ⟨h1, h2, h3⟩ := hr
          have hat := hW.atoms
          walk_at "put2"
          walk_at "go"
          refine ow_intC ⟨by omega, by omega, by decide⟩ ?_
          rw [pow_cast]
          walk_at "go"
          have hb2 : bits ||| 2 ^ f < 2 ^ W.atoms.length := Nat.or_lt_two_pow hb (Nat.pow_lt_pow_right (by decide) h2)
          rw [bitOr_nat]
          refine br_2 (fun _ => ?_) (fun _ => ?_)
          · walk_at "go"
            refine ow_intC ⟨by omega, by omega, by decide⟩ ?_
            rw [pow_cast]
            walk_at "go"
            rw [bitXor_nat]
            exact ⟨pre + 1, r, f + 1, _, _, _, rfl, rfl, rfl, h3, Nat.lt_of_le_of_lt (Nat.sub_le _ _) (Nat.or_lt_two_pow hb2 (Nat.pow_lt_pow_right (by decide) h2))⟩
          · walk_at "go"
            exact ⟨pre + 1, r, f + 1, _, _, _, rfl, rfl, rfl, h3, hb2⟩
    · obtain ⟨j, hj⟩ := List.mem_iff_getElem?.1 hx
      exact ⟨_, (rangeD_get hj).2⟩
end
end Dd
set_option Elab.async false
set_option linter.all false
set_option maxRecDepth 100000
set_option autoImplicit false
set_option maxHeartbeats 1000000
/-! Pe: how a tree fails. -/
namespace Dd
open PySem PySem.Spec PyProof.Rows L2 Dl
local macro_rules | `(tactic| walk_at "dx.var") => `(tactic| ((with_reducible show EW _ (tVar _) _ _ _); first
  | (refine ew_varD rfl ?_) | (refine ew_varR rfl ?_) | (refine ew_varL rfl ?_) | (refine ew_varW rfl ?_) | (refine ew_varS rfl ?_) | (refine ew_varT rfl ?_)))
local macro_rules | `(tactic| walk_at "dx.ew") => `(tactic| first
  | (walk_at "dx.var")
  | (with_reducible refine ew_int ?_) | ((with_reducible refine ew_str ?hh ?_); (case hh => decide +kernel)) | (with_reducible refine ew_bl ?_) | (with_reducible refine ew_non ?_)
  | ((with_reducible show EW _ (tOp (rIxA _ _) (tVar _) (tC (.int 0))) _ _ _); refine ew_w0 rfl ?_) | ((with_reducible show EW _ (tOp (rIxA _ _) (tVar _) (tC (.int 1))) _ _ _); refine ew_w1 rfl ?_)
  | (with_reducible refine ew_op ?_) | (with_reducible refine ew_un ?_) | (with_reducible refine ew_tupE ?_) | (with_reducible refine ew_lstE ?_) | (with_reducible refine ew_isi ?_) | (with_reducible refine ew_cb ?_)
  | (with_reducible refine ew_andV ?_) | (with_reducible refine ew_orV ?_) | (with_reducible refine ew_notV ?_) | (with_reducible refine ew_call ?_) | (with_reducible refine ew_callD ?_) | ((with_reducible refine ew_lc1 ?hq ?_); (case hq => exact rfl)) | ((with_reducible refine ew_lc2 ?hq ?hq2 ?_); (case hq => exact rfl); (case hq2 => exact rfl)) | (with_reducible refine ew_if ?_) | (with_reducible refine ew_chain ?_) | (with_reducible refine ew_sl ?_) | (with_reducible refine ew_bmS ?_) | (with_reducible refine ew_back ?_))
local macro_rules | `(tactic| walk_at "dx.ow") => `(tactic| first
  | (with_reducible refine ow_addI ?_) | (with_reducible refine ow_eqI ?_) | (with_reducible refine ow_eqS ?_) | (with_reducible refine ow_neI ?_) | (with_reducible refine ow_neS ?_) | (with_reducible refine ow_neN (.inr rfl) (.inl rfl) ?_) | (with_reducible refine ow_eqN (.inr rfl) (.inl rfl) ?_) | ((with_reducible refine ow_inT ?hmm ?_); (case hmm => exact Nat.le_of_ble_eq_true rfl)) | (with_reducible refine ow_isN ?_) | (with_reducible refine ow_noN ?_)
  | (with_reducible refine ow_intB ?_) | (with_reducible refine ow_int ?_) | ((with_reducible refine ow_intC ?hc ?_); (case hc => first | decide | omega))
  | ((with_reducible show OW _ (rIxA _ _) _ _ _); refine ow_ixT rfl ?_))
local macro_rules | `(tactic| walk_at "dx.sw") => `(tactic| first
  | (walk_at "dx.for") | (with_reducible refine sw_seq ?_) | (with_reducible refine sw_next ?_) | ((with_reducible show SW _ (tDrop (tCall _ _ _ _)) _ _ _); refine sw_expr ?_) | (with_reducible refine sw_cont ?_) | (with_reducible refine sw_ret ?_) | (with_reducible refine sw_retN ?_) | (with_reducible refine sw_if ?_)
  | ((with_reducible show SW _ (tAsg (tBM0 _ _ rPop (tVar _)) _) _ _ _); refine sw_pop2 (Nat.le_of_ble_eq_true rfl) (Nat.le_of_ble_eq_true rfl) rfl ?_; dsimp only [List.set])
  | ((with_reducible show SW _ (tDrop (tBM _ _ rExtend _ _)) _ _ _); refine sw_extend rfl ?_) | ((with_reducible show SW _ (tDrop (tBM0 _ _ rReverse _)) _ _ _); refine sw_reverse rfl ?_)
  | ((with_reducible show SW _ (tAsg _ (gSub (tVar _) _ _)) _ _ _); first | (refine sw_draw rfl ?_) | (refine sw_store rfl ?_))
  | ((with_reducible refine sw_set ?hi ?_); (case hi => exact Nat.le_of_ble_eq_true rfl))
  | ((with_reducible refine sw_par ?hi ?hj ?_); (case hi => exact Nat.le_of_ble_eq_true rfl); (case hj => exact Nat.le_of_ble_eq_true rfl); dsimp only [List.set])
  | ((with_reducible refine sw_asg2 ?hi ?hj ?_); (case hi => exact Nat.le_of_ble_eq_true rfl); (case hj => exact Nat.le_of_ble_eq_true rfl); dsimp only [List.set])
  | ((with_reducible refine sw_asg3 ?hi ?hj ?hk ?_); (case hi => exact Nat.le_of_ble_eq_true rfl); (case hj => exact Nat.le_of_ble_eq_true rfl); (case hk => exact Nat.le_of_ble_eq_true rfl); dsimp only [List.set])
  | ((with_reducible refine sw_aug (a := ?aa) ?hi ?_); (case hi => exact rfl); dsimp only [List.set]))
local macro_rules | `(tactic| walk_at "dx.for") => `(tactic| first
  | (with_reducible refine sw_for1 ?_) | (with_reducible refine sw_for2 ?_))
local macro_rules | `(tactic| walk_at "dx.misc") => `(tactic| first
  | (with_reducible refine ea_cons ?_) | (with_reducible refine ea_nil ?_)
  | (with_reducible refine tw_test ?_) | (with_reducible refine tw_B ?_) | (with_reducible refine tw_and ?_) | (with_reducible refine tw_or ?_) | (with_reducible refine tw_not ?_) | (with_reducible refine tw_yes ?_)
  | (with_reducible refine wi_tup ?_) | (with_reducible refine wi_enumT ?_) | (with_reducible refine wi_zipT ?_) | (with_reducible refine wi_rev ?_) | (with_reducible refine wi_range ?_) | (refine wi_enum rfl ?_) | (refine wi_var rfl ?_) | ((with_reducible show WI _ (iList _ (tCall _ _ _ _)) _ _ _); refine wi_new ?_) | (with_reducible refine uw_int ?_) | (with_reducible refine op_no ?_) | (with_reducible refine op_int ?_)
  | ((with_reducible show Br (decide ((_ : Int) < _)) _ _); first | (refine br_t rfl ?_) | (refine br_f rfl ?_)) | ((with_reducible show Br (decide ((_ : Int) ≤ _)) _ _); first | (refine br_t rfl ?_) | (refine br_f rfl ?_)) | ((with_reducible show Br (decide ((_ : Int) = _)) _ _); first | (refine br_t rfl ?_) | (refine br_f rfl ?_)) | ((with_reducible show Br (!decide ((_ : Int) = _)) _ _); first | (refine br_t rfl ?_) | (refine br_f rfl ?_))
  | ((with_reducible show Br (isNone _) _ _); first | (refine br_t rfl ?_) | (refine br_f rfl ?_)) | ((with_reducible show Br (!isNone _) _ _); first | (refine br_t rfl ?_) | (refine br_f rfl ?_))
  | ((with_reducible show Br true _ _); refine br_t rfl ?_) | ((with_reducible show Br false _ _); refine br_f rfl ?_) | (refine br_t (by decide +kernel) ?_) | (refine br_f (by decide +kernel) ?_)
  | (with_reducible refine cw_lenT ?_) | (with_reducible refine cw_listT ?_) | (with_reducible refine cw_tupL (.inr rfl) ?_) | (with_reducible refine cw_tupL (.inl rfl) ?_) | (with_reducible refine cw_lenL (.inr rfl) ?_) | (with_reducible refine cw_lenL (.inl rfl) ?_) | (with_reducible refine cw_lenW ?_)
  | (refine ⟨_, _, rfl, kit_ii, ?_⟩) | (refine ⟨_, _, rfl, kit_ib, ?_⟩) | (refine ⟨_, _, rfl, kit_tt, ?_⟩) | (refine ⟨_, _, rfl, kit_ss, ?_⟩)
  | (with_reducible refine ⟨_, rfl, ?_⟩) | (refine ⟨_, rfl, Nat.le_of_ble_eq_true rfl, ?_⟩) | (with_reducible refine ⟨_, _, rfl, ?_⟩) | (with_reducible refine ⟨_, _, _, rfl, ?_⟩) | ((with_reducible refine ⟨(fun _ z => nomatch z), ?_⟩); dsimp only [List.set]) | (refine ⟨_, _, rfl, by decide +kernel, ?_⟩) | (refine ⟨Nat.le_of_ble_eq_true rfl, ?_⟩) | (with_reducible refine ⟨rfl, ?_⟩) | dsimp only)
local macro_rules | `(tactic| walk_at "dx") => `(tactic| first
  | ((with_reducible show EW _ _ _ _ _); walk_at "dx.ew") | ((with_reducible show SW _ _ _ _ _); walk_at "dx.sw") | ((with_reducible show OW _ _ _ _ _); walk_at "dx.ow") | (walk_at "dx.misc"))
local macro_rules | `(tactic| walk_at "go") => `(tactic| repeat walk_at "dx")
local macro_rules | `(tactic| walk_at "put1") => `(tactic| (refine ⟨Nat.le_of_ble_eq_true rfl, _, rfl, ?_⟩; dsimp only [wipeG, List.map, List.set]))
local macro_rules | `(tactic| walk_at "put2") => `(tactic| (refine ⟨⟨Nat.le_of_ble_eq_true rfl, Nat.le_of_ble_eq_true rfl⟩, _, rfl, ?_⟩; dsimp only [wipeG, List.map, List.set]))
def sp_failing : DSpec := fun rs n Q => ∃ (W : Wd) (s : Sta) (t : Tree), rs = [.d W.enc, .t (prs W), .d s.enc, .d t.enc] ∧ WdOk W ∧ s.am.length = W.counts.length ∧ t.ok W ∧ t.deep ≤ 20 ∧ Q (.d (failing W t s)) n
def sp_tree_fails : DSpec := fun rs n Q => ∃ (W : Wd) (sts : List Sta) (t : Tree), rs = [.d W.enc, .d (.tuple (sts.map Sta.enc)), .d t.enc] ∧ WdOk W ∧ 1 ≤ sts.length ∧ sts.length ≤ 64 ∧ (∀ s ∈ sts, StaIn W s) ∧ t.ok W ∧ t.deep ≤ 20 ∧ t.size ≤ 200 ∧ Q (.d (fails W t sts)) n
section
variable {P : Program} {w : World} {K : PySem.W.Frag} {mg : Str → Option Value} {base : Heap} {ns : List Int} {k m : Nat}
def nm_failing : List Str := ["plain", "by_label", "first", "tree", "state", "path", "deed", "fault", "bit"]
theorem sc_failing : FnScope nm_failing ["plain", "by_label", "first", "tree"] (defScope s_failing) := ⟨rfl, rfl, rfl, by decide +kernel, rfl, by decide +kernel, by decide +kernel⟩
/- slots of failing: 0 plain, 1 by_label, 2 first, 3 tree, 4 state, 5 path, 6 deed, 7 fault, 8 bit -/
theorem ok_failing (B : Bs K mg) (H_reason_of : Fn P w K mg base ns "reason_of" 9 ["condition", "state"] [] sp_reason_of) (H_holds : Fn P w K mg base ns "holds" 8 ["condition", "state"] [] (sp_holds 8)) (H_state_behind : Fn P w K mg base ns "state_behind" 1 ["deed", "state"] [] sp_state_behind) (H_fault_of : Fn P w K mg base ns "fault_of" 10 ["plain", "deed", "state"] [] sp_fault_of) : Fn P w K mg base ns "failing" (10 + 1) ["plain", "by_label", "first", "tree"] [] sp_failing := by
  obtain ⟨fd, F⟩ := B.says.def_ 15 (d := d_failing) rfl
  refine ⟨_, fd, _, okD (ns := ns) F sc_failing (fun rs n Q h => ?len) (fun cdv A outer s H E hr => ⟨_, PSs.nox (pss_cons (ps_set (i := 4) sc_failing.nd rfl (.inl rfl) (pv 2))
      (pss_cons (ps_set (i := 5) sc_failing.nd rfl (.inl rfl) (pe_lst pa_nil))
      (pss_cons (ps_while PassesOwn.never (pt_cmpR (op_neM hr.units) (pe_ix (ixA hr.units) (pv 3) pe_int (fun _ _ => rfl)) pe_str (nomark _)) (pss_one (ps_if (pt_cmpR (op_eqM hr.units) (pe_ix (ixA hr.units) (pv 3) pe_int (fun _ _ => rfl)) pe_str (nomark _)) (pss_cons (ps_set (i := 6) sc_failing.nd rfl (.inl rfl) (pe_ix (ixA hr.units) (pv 1) (pe_ix (ixA hr.units) (pv 3) pe_int (fun _ _ => rfl)) (fun _ _ => rfl)))
      (pss_cons (ps_set (i := 7) sc_failing.nd rfl (.inl rfl) (pe_fn H_fault_of (hr.mono (by omega)) (by rfl) (pa_cons (pv 0) (pa_cons (pv 6) (pa_cons (pv 4) pa_nil)))))
      (pss_cons (ps_if (pt_cmpR op_some (pv 7) pe_non (nomark _)) (pss_one (ps_ret (pe_tup (pa_cons (pv 2) (pa_cons (pe_callTy call_tupA (by rfl) (B.free 50 _ rfl) (by decide +kernel) (pa_cons (pv 5) pa_nil)) (pa_cons (pv 7) pa_nil)))))) pss_nil)
      (pss_cons (ps_set (i := 4) sc_failing.nd rfl (.inl rfl) (pe_fn H_state_behind (hr.mono (by omega)) (by rfl) (pa_cons (pv 6) (pa_cons (pv 4) pa_nil))))
      (pss_cons (ps_expr (pe_bm PySem.F.plainAttrs_list PySem.F.slot_list_append PySem.F.type_list_append mt_append (pv 5) (pa_cons (pe_tup (pa_cons pe_str (pa_cons (pe_ix (ixA hr.units) (pv 3) pe_int (fun _ _ => rfl)) pa_nil))) pa_nil)))
      (pss_one (ps_set (i := 3) sc_failing.nd rfl (.inl rfl) (pe_ix (ixA hr.units) (pv 3) pe_int (fun _ _ => rfl))))))))) (pss_cons (ps_set (i := 8) sc_failing.nd rfl (.inl rfl) (pe_op op_and (pe_op op_shr (pe_ix (ixA hr.units) (pv 4) pe_int (fun _ _ => rfl)) (pe_ix (ixA hr.units) (pv 3) pe_int (fun _ _ => rfl))) pe_int))
      (pss_cons (ps_expr (pe_bm PySem.F.plainAttrs_list PySem.F.slot_list_append PySem.F.type_list_append mt_append (pv 5) (pa_cons (pe_tup (pa_cons pe_str (pa_cons (pe_ix (ixA hr.units) (pv 3) pe_int (fun _ _ => rfl)) (pa_cons (pv 8) pa_nil)))) pa_nil)))
      (pss_one (ps_set (i := 3) sc_failing.nd rfl (.inl rfl) (pe_ix (ixA hr.units) (pv 3) (pe_op op_sub pe_int (pv 8)) (fun _ _ => rfl)))))))))
      (pss_cons (ps_if (pt_val (pe_fn H_holds (hr.mono (by omega)) (by rfl) (pa_cons (pe_ix (ixA hr.units) (pv 0) pe_int (fun _ _ => rfl)) (pa_cons (pv 4) pa_nil)))) (pss_one (ps_ret pe_non)) pss_nil)
      (pss_one (ps_ret (pe_tup (pa_cons (pv 2) (pa_cons (pe_callTy call_tupA (by rfl) (B.free 50 _ rfl) (by decide +kernel) (pa_cons (pv 5) pa_nil)) (pa_cons (pe_fn H_reason_of (hr.mono (by omega)) (by rfl) (pa_cons (pe_ix (ixA hr.units) (pv 0) pe_int (fun _ _ => rfl)) (pa_cons (pv 4) pa_nil))) pa_nil)))))))))), fun rs n Q h => ?walk⟩), B.glo 15 _ rfl, F.kp, .nil, F.bindsN fun _ _ _ _ _ _ us hl => match us, hl with | [_, _, _, _], _ => rfl⟩
  case len =>
    obtain ⟨_, _, _, rfl, _⟩ := h
    rfl
  case walk =>
    obtain ⟨W, f, t, rfl, hW, hl, ht, hd, hQ⟩ := h
    show SW _ _ [.d W.enc, .t (prs W), .d f.enc, .d t.enc, .u, .u, .u, .u, .u] n _
    dsimp only [cxOf]
    walk_at "go"
    refine while_inv (fun m G n' => ∃ (s : Sta) (t' : Tree) (ps : List PyData) (a b c : Rs), G = [.d W.enc, .t (prs W), .d f.enc, .d t'.enc, .d s.enc, .l ps, a, b, c] ∧ n' = n ∧ s.am.length = W.counts.length ∧ t'.ok W ∧ t'.deep ≤ m ∧ m + ps.length ≤ 20 ∧ run W t' s ps = run W t f []) ?_ 20 _ _ ⟨f, t, [], _, _, _, rfl, rfl, hl, ht, hd, Nat.le_refl _, rfl⟩
    rintro m G n' ⟨s, t', ps, a, b, c, rfl, rfl, hs, ho, hm, hp, er⟩
    cases t' with
    | done =>
      walk_at "go"
      refine ⟨W.wish, s, rfl, hW.wdep, by rw [hs]; exact hW.wish, ?_⟩
      walk_at "go"
      rw [run] at er
      refine br_2 (fun b1 => ?_) (fun b1 => ?_)
      · walk_at "go"
        rw [if_pos b1] at er
        rw [failing, ← er] at hQ
        exact hQ
      · walk_at "go"
        refine ⟨W.wish, s, rfl, hW.wdep, by rw [hs]; exact hW.wish, rfl, ?_⟩
        walk_at "go"
        rw [if_neg (by rw [b1]; exact Bool.false_ne_true)] at er
        rw [failing, ← er] at hQ
        exact hQ
    | doo l t' =>
      obtain ⟨o1, o2⟩ := ho
      obtain ⟨d, e1, hd, e3, e2⟩ := hW.look o1
      have hL := hW.labs o1
      obtain ⟨zs, rfl⟩ := hL.tup
      cases m with
      | zero => exact absurd hm (by simp [Tree.deep])
      | succ m =>
        walk_at "go"
        have hD := hW.deeds d hd
        refine ow_ixD hL.key hL.dep e2 ?_
        walk_at "go"
        refine ⟨W, d, s, rfl, hs, hD, rfl, ?_⟩
        walk_at "go"
        rw [run, e1] at er
        simp only at er
        refine br_2 (fun b1 => ?_) (fun b1 => ?_)
        · simp only [Bool.not_eq_true'] at b1
          walk_at "go"
          rw [if_neg (by rw [b1]; exact Bool.false_ne_true)] at er
          rw [failing, ← er] at hQ
          exact hQ
        · simp only [Bool.not_eq_false'] at b1
          walk_at "go"
          rw [if_pos b1] at er
          refine ⟨d, s, rfl, by rw [hs]; exact hD.mv, rfl, ?_⟩
          walk_at "go"
          refine sw_append rfl (by omega) ?_
          walk_at "go"
          have hm2 : t'.deep + 1 ≤ m + 1 := hm
          exact ⟨behind d s, t', _, _, _, _, rfl, rfl, (moved_len d.moves s.am).trans hs, o2, by omega, by rw [List.length_append]; show m + (ps.length + 1) ≤ 20; omega, er⟩
    | ask k x y =>
      obtain ⟨o1, o2, o3⟩ := ho
      cases m with
      | zero => exact absurd hm (by simp [Tree.deep])
      | succ m =>
        walk_at "go"
        have hm2 : max x.deep y.deep + 1 ≤ m + 1 := hm
        rw [Int.toNat_natCast, shr_one]
        refine sw_append rfl (by omega) ?_
        rw [run] at er
        cases eb : s.bits.testBit k with
        | true =>
          rw [if_pos rfl]
          rw [if_pos eb] at er
          walk_at "go"
          exact ⟨s, x, _, _, _, _, rfl, rfl, hs, o2, by omega, by rw [List.length_append]; show m + (ps.length + 1) ≤ 20; omega, er⟩
        | false =>
          rw [if_neg Bool.false_ne_true]
          rw [if_neg (by rw [eb]; exact Bool.false_ne_true)] at er
          walk_at "go"
          exact ⟨s, y, _, _, _, _, rfl, rfl, hs, o3, by omega, by rw [List.length_append]; show m + (ps.length + 1) ≤ 20; omega, er⟩
def nm_tree_fails : List Str := ["plain", "some", "tree", "by_label", "state", "found", "deed"]
theorem sc_tree_fails : FnScope nm_tree_fails ["plain", "some", "tree"] (defScope s_tree_fails) := ⟨rfl, rfl, rfl, by decide +kernel, rfl, by decide +kernel, by decide +kernel⟩
/- slots of tree_fails: 0 plain, 1 some, 2 tree, 3 by_label, 4 state, 5 found, 6 deed -/
theorem ok_tree_fails (B : Bs K mg) (H_failing : Fn P w K mg base ns "failing" 11 ["plain", "by_label", "first", "tree"] [] sp_failing) (H_need_tree : Fn P w K mg base ns "need_tree" 3 ["plain", "thing"] [] sp_need_tree) (H_need_states : Fn P w K mg base ns "need_states" 4 ["plain", "some"] [] sp_need_states) : Fn P w K mg base ns "tree_fails" (11 + 1) ["plain", "some", "tree"] [] sp_tree_fails := by
  obtain ⟨fd, F⟩ := B.says.def_ 16 (d := d_tree_fails) rfl
  refine ⟨_, fd, _, okD (ns := ns) F sc_tree_fails (fun rs n Q h => ?len) (fun cdv A outer s H E hr => ⟨_, PSs.nox (pss_cons (ps_expr (pe_fn H_need_states (hr.mono (by omega)) (by rfl) (pa_cons (pv 0) (pa_cons (pv 1) pa_nil))))
      (pss_cons (ps_expr (pe_fn H_need_tree (hr.mono (by omega)) (by rfl) (pa_cons (pv 0) (pa_cons (pv 2) pa_nil))))
      (pss_cons (ps_set (i := 3) sc_tree_fails.nd rfl (.inl rfl) (pe_callTy (call_dict rfl hr.units) (by rfl) (B.free 39 _ rfl) (by decide +kernel) (pa_cons (pe_lc (own := [("deed", 6)]) (g := gName 6) (tt := tYes) (te := (tTup (tCons (tOp (rIxA K w) (tVar 6) (tC (V.int 0))) (tCons (tVar 6) tNil)))) rfl sc_tree_fails.nd (pi_tup (pe_ix (ixA hr.units) (pv 0) pe_int (fun _ _ => rfl))) (blkOk_by (own := [("deed", 6)]) (N := nm_tree_fails) (sc := defScope s_tree_fails) (by decide +kernel)) (fun _ _ _ _ _ => (pg_name (i := 6) sc_tree_fails.nd rfl (.inl rfl))) (fun _ _ _ _ _ => pts_nil) (fun _ _ _ _ _ => (pe_tup (pa_cons (pe_ix (ixA hr.units) (pv 6) pe_int (fun _ _ => rfl)) (pa_cons (pv 6) pa_nil))))) pa_nil)))
      (pss_cons (ps_for PassesOwn.never rfl (pi_tup (pv 1)) (pg_name (i := 4) sc_tree_fails.nd rfl (.inl rfl)) (pss_cons (ps_set (i := 5) sc_tree_fails.nd rfl (.inl rfl) (pe_fn H_failing (hr.mono (by omega)) (by rfl) (pa_cons (pv 0) (pa_cons (pv 3) (pa_cons (pv 4) (pa_cons (pv 2) pa_nil))))))
      (pss_one (ps_if (pt_cmpR op_some (pv 5) pe_non (nomark _)) (pss_one (ps_ret (pv 5))) pss_nil))))
      (pss_one (ps_ret pe_non)))))), fun rs n Q h => ?walk⟩), B.glo 16 _ rfl, F.kp, .nil, F.bindsN fun _ _ _ _ _ _ us hl => match us, hl with | [_, _, _], _ => rfl⟩
  case len =>
    obtain ⟨_, _, _, rfl, _⟩ := h
    rfl
  case walk =>
    obtain ⟨W, sts, t, rfl, hW, h1, h2, hs, ht, hd, hz, hQ⟩ := h
    show SW _ _ [.d W.enc, .d (.tuple (sts.map Sta.enc)), .d t.enc, .u, .u, .u, .u] n _
    dsimp only [cxOf]
    walk_at "go"
    refine ⟨W, sts, rfl, hW, h1, h2, hs, rfl, ?_⟩
    walk_at "go"
    refine ⟨W, t, rfl, hW, ht, hd, hz, rfl, ?_⟩
    walk_at "go"
    refine ⟨by have := hW.dds; rw [List.length_map]; omega, comp_mapE Deed.enc (fun d => .tuple [d.lab, d.enc]) _ _ (fun d hd => ?_) ?_⟩
    · walk_at "put1"
      walk_at "go"
    · walk_at "go"
      rw [List.nil_append, prs_pr]
      refine cw_dict (.inl rfl) hW.prs ?_
      walk_at "go"
      refine loop_inv (fun ds G n' => ∃ (r : List Sta) (a b c : Rs), ds = r.map Sta.enc ∧ G = [.d W.enc, .d (.tuple (sts.map Sta.enc)), .d t.enc, .t (prs W), a, b, c] ∧ n' = n ∧ (∀ s ∈ r, StaIn W s) ∧ fails W t r = fails W t sts) ?_ ?_ _ _ _ ⟨sts, _, _, _, rfl, rfl, rfl, hs, rfl⟩
      · rintro G n' ⟨r, a, b, c, e, rfl, rfl, _, er⟩
        cases r with
        | cons _ _ => cases e
        | nil =>
          walk_at "go"
          rw [← er] at hQ
          exact hQ
      · rintro x ds G n' ⟨r, a, b, c, e, rfl, rfl, hr, er⟩
        cases r with
        | nil => cases e
        | cons s r =>
          rw [List.map_cons] at e
          obtain ⟨rfl, rfl⟩ := List.cons.inj e
          walk_at "put1"
          walk_at "go"
          refine ⟨W, s, t, rfl, hW, (hr s (List.mem_cons_self ..)).len, ht, hd, rfl, ?_⟩
          walk_at "go"
          rw [fails] at er
          refine br_2 (fun b1 => ?_) (fun b1 => ?_)
          · simp only [Bool.not_eq_true'] at b1
            walk_at "go"
            rw [if_neg (by rw [b1]; exact Bool.false_ne_true)] at er
            rw [← er] at hQ
            exact hQ
          · simp only [Bool.not_eq_false'] at b1
            walk_at "go"
            rw [if_pos b1] at er
            exact ⟨r, _, _, _, rfl, rfl, rfl, fun s hs => hr s (List.mem_cons_of_mem _ hs), er⟩
end
end Dd
set_option Elab.async false
set_option linter.all false
set_option maxRecDepth 100000
set_option autoImplicit false
set_option maxHeartbeats 1000000
/-! Pf: the law's own reading. -/
namespace Dd
open PySem PySem.Spec PyProof.Rows L2 Dl
local macro_rules | `(tactic| walk_at "dx.var") => `(tactic| ((with_reducible show EW _ (tVar _) _ _ _); first
  | (refine ew_varD rfl ?_) | (refine ew_varR rfl ?_) | (refine ew_varL rfl ?_) | (refine ew_varW rfl ?_) | (refine ew_varS rfl ?_) | (refine ew_varT rfl ?_)))
local macro_rules | `(tactic| walk_at "dx.ew") => `(tactic| first
  | (walk_at "dx.var")
  | (with_reducible refine ew_int ?_) | ((with_reducible refine ew_str ?hh ?_); (case hh => decide +kernel)) | (with_reducible refine ew_bl ?_) | (with_reducible refine ew_non ?_)
  | ((with_reducible show EW _ (tOp (rIxA _ _) (tVar _) (tC (.int 0))) _ _ _); refine ew_w0 rfl ?_) | ((with_reducible show EW _ (tOp (rIxA _ _) (tVar _) (tC (.int 1))) _ _ _); refine ew_w1 rfl ?_)
  | (with_reducible refine ew_op ?_) | (with_reducible refine ew_un ?_) | (with_reducible refine ew_tupE ?_) | (with_reducible refine ew_lstE ?_) | (with_reducible refine ew_isi ?_) | (with_reducible refine ew_cb ?_)
  | (with_reducible refine ew_andV ?_) | (with_reducible refine ew_orV ?_) | (with_reducible refine ew_notV ?_) | (with_reducible refine ew_call ?_) | (with_reducible refine ew_callD ?_) | ((with_reducible refine ew_lc1 ?hq ?_); (case hq => exact rfl)) | ((with_reducible refine ew_lc2 ?hq ?hq2 ?_); (case hq => exact rfl); (case hq2 => exact rfl)) | (with_reducible refine ew_if ?_) | (with_reducible refine ew_chain ?_) | (with_reducible refine ew_sl ?_) | (with_reducible refine ew_bmS ?_) | (with_reducible refine ew_back ?_))
local macro_rules | `(tactic| walk_at "dx.ow") => `(tactic| first
  | (with_reducible refine ow_addI ?_) | (with_reducible refine ow_eqI ?_) | (with_reducible refine ow_eqS ?_) | (with_reducible refine ow_neI ?_) | (with_reducible refine ow_neS ?_) | (with_reducible refine ow_neN (.inr rfl) (.inl rfl) ?_) | (with_reducible refine ow_eqN (.inr rfl) (.inl rfl) ?_) | ((with_reducible refine ow_inT ?hmm ?_); (case hmm => exact Nat.le_of_ble_eq_true rfl)) | (with_reducible refine ow_isN ?_) | (with_reducible refine ow_noN ?_)
  | (with_reducible refine ow_intB ?_) | (with_reducible refine ow_int ?_) | ((with_reducible refine ow_intC ?hc ?_); (case hc => first | decide | omega))
  | ((with_reducible show OW _ (rIxA _ _) _ _ _); refine ow_ixT rfl ?_))
local macro_rules | `(tactic| walk_at "dx.sw") => `(tactic| first
  | (walk_at "dx.for") | (with_reducible refine sw_seq ?_) | (with_reducible refine sw_next ?_) | ((with_reducible show SW _ (tDrop (tCall _ _ _ _)) _ _ _); refine sw_expr ?_) | (with_reducible refine sw_cont ?_) | (with_reducible refine sw_ret ?_) | (with_reducible refine sw_retN ?_) | (with_reducible refine sw_if ?_)
  | ((with_reducible show SW _ (tAsg (tBM0 _ _ rPop (tVar _)) _) _ _ _); refine sw_pop2 (Nat.le_of_ble_eq_true rfl) (Nat.le_of_ble_eq_true rfl) rfl ?_; dsimp only [List.set])
  | ((with_reducible show SW _ (tDrop (tBM _ _ rExtend _ _)) _ _ _); refine sw_extend rfl ?_) | ((with_reducible show SW _ (tDrop (tBM0 _ _ rReverse _)) _ _ _); refine sw_reverse rfl ?_)
  | ((with_reducible show SW _ (tAsg _ (gSub (tVar _) _ _)) _ _ _); first | (refine sw_draw rfl ?_) | (refine sw_store rfl ?_))
  | ((with_reducible refine sw_set ?hi ?_); (case hi => exact Nat.le_of_ble_eq_true rfl))
  | ((with_reducible refine sw_par ?hi ?hj ?_); (case hi => exact Nat.le_of_ble_eq_true rfl); (case hj => exact Nat.le_of_ble_eq_true rfl); dsimp only [List.set])
  | ((with_reducible refine sw_asg2 ?hi ?hj ?_); (case hi => exact Nat.le_of_ble_eq_true rfl); (case hj => exact Nat.le_of_ble_eq_true rfl); dsimp only [List.set])
  | ((with_reducible refine sw_asg3 ?hi ?hj ?hk ?_); (case hi => exact Nat.le_of_ble_eq_true rfl); (case hj => exact Nat.le_of_ble_eq_true rfl); (case hk => exact Nat.le_of_ble_eq_true rfl); dsimp only [List.set])
  | ((with_reducible refine sw_aug (a := ?aa) ?hi ?_); (case hi => exact rfl); dsimp only [List.set]))
local macro_rules | `(tactic| walk_at "dx.for") => `(tactic| first
  | (with_reducible refine sw_for1 ?_) | (with_reducible refine sw_for2 ?_))
local macro_rules | `(tactic| walk_at "dx.misc") => `(tactic| first
  | (with_reducible refine ea_cons ?_) | (with_reducible refine ea_nil ?_)
  | (with_reducible refine tw_test ?_) | (with_reducible refine tw_B ?_) | (with_reducible refine tw_and ?_) | (with_reducible refine tw_or ?_) | (with_reducible refine tw_not ?_) | (with_reducible refine tw_yes ?_)
  | (with_reducible refine wi_tup ?_) | (with_reducible refine wi_enumT ?_) | (with_reducible refine wi_zipT ?_) | (with_reducible refine wi_rev ?_) | (with_reducible refine wi_range ?_) | (refine wi_enum rfl ?_) | (refine wi_var rfl ?_) | ((with_reducible show WI _ (iList _ (tCall _ _ _ _)) _ _ _); refine wi_new ?_) | (with_reducible refine uw_int ?_) | (with_reducible refine op_no ?_) | (with_reducible refine op_int ?_)
  | ((with_reducible show Br (decide ((_ : Int) < _)) _ _); first | (refine br_t rfl ?_) | (refine br_f rfl ?_)) | ((with_reducible show Br (decide ((_ : Int) ≤ _)) _ _); first | (refine br_t rfl ?_) | (refine br_f rfl ?_)) | ((with_reducible show Br (decide ((_ : Int) = _)) _ _); first | (refine br_t rfl ?_) | (refine br_f rfl ?_)) | ((with_reducible show Br (!decide ((_ : Int) = _)) _ _); first | (refine br_t rfl ?_) | (refine br_f rfl ?_))
  | ((with_reducible show Br (isNone _) _ _); first | (refine br_t rfl ?_) | (refine br_f rfl ?_)) | ((with_reducible show Br (!isNone _) _ _); first | (refine br_t rfl ?_) | (refine br_f rfl ?_))
  | ((with_reducible show Br true _ _); refine br_t rfl ?_) | ((with_reducible show Br false _ _); refine br_f rfl ?_) | (refine br_t (by decide +kernel) ?_) | (refine br_f (by decide +kernel) ?_)
  | (with_reducible refine cw_lenT ?_) | (with_reducible refine cw_listT ?_) | (with_reducible refine cw_tupL (.inr rfl) ?_) | (with_reducible refine cw_tupL (.inl rfl) ?_) | (with_reducible refine cw_lenL (.inr rfl) ?_) | (with_reducible refine cw_lenL (.inl rfl) ?_) | (with_reducible refine cw_lenW ?_)
  | (refine ⟨_, _, rfl, kit_ii, ?_⟩) | (refine ⟨_, _, rfl, kit_ib, ?_⟩) | (refine ⟨_, _, rfl, kit_tt, ?_⟩) | (refine ⟨_, _, rfl, kit_ss, ?_⟩)
  | (with_reducible refine ⟨_, rfl, ?_⟩) | (refine ⟨_, rfl, Nat.le_of_ble_eq_true rfl, ?_⟩) | (with_reducible refine ⟨_, _, rfl, ?_⟩) | (with_reducible refine ⟨_, _, _, rfl, ?_⟩) | ((with_reducible refine ⟨(fun _ z => nomatch z), ?_⟩); dsimp only [List.set]) | (refine ⟨_, _, rfl, by decide +kernel, ?_⟩) | (refine ⟨Nat.le_of_ble_eq_true rfl, ?_⟩) | (with_reducible refine ⟨rfl, ?_⟩) | dsimp only)
local macro_rules | `(tactic| walk_at "dx") => `(tactic| first
  | ((with_reducible show EW _ _ _ _ _); walk_at "dx.ew") | ((with_reducible show SW _ _ _ _ _); walk_at "dx.sw") | ((with_reducible show OW _ _ _ _ _); walk_at "dx.ow") | (walk_at "dx.misc"))
local macro_rules | `(tactic| walk_at "go") => `(tactic| repeat walk_at "dx")
local macro_rules | `(tactic| walk_at "put1") => `(tactic| (refine ⟨Nat.le_of_ble_eq_true rfl, _, rfl, ?_⟩; dsimp only [wipeG, List.map, List.set]))
local macro_rules | `(tactic| walk_at "put2") => `(tactic| (refine ⟨⟨Nat.le_of_ble_eq_true rfl, Nat.le_of_ble_eq_true rfl⟩, _, rfl, ?_⟩; dsimp only [wipeG, List.map, List.set]))
def sp_w_done : DSpec := fun rs n Q => ∃ (W : Wd) (d : Deed) (s : Sta), rs = [.d W.enc, .d d.enc, .d s.enc] ∧ s.am.length = W.counts.length ∧ DeedOk W.counts.length d ∧ Q (.d (staD (done W.counts d s))) n
def sp_w_part (m : Nat) : DSpec := fun rs n Q => ∃ (c : Cond) (s : Sta), rs = [.d c.enc, .d s.enc] ∧ c.dep ≤ m ∧ c.dep ≤ 8 ∧ c.ok s.am.length ∧ Q (.d (partD c s)) n
def sp_w_gone : DSpec := fun rs n Q => ∃ (W : Wd) (s : Sta) (t : Tree), rs = [.d W.enc, .d s.enc, .d t.enc] ∧ WdOk W ∧ s.am.length = W.counts.length ∧ t.ok W ∧ t.deep ≤ 20 ∧ Q (.d (failing W t s)) n
def sp_w_deeds : DSpec := fun rs n Q => ∃ (W : Wd) (ls : List PyData), rs = [.d W.enc, .d (.tuple ls)] ∧ WdOk W ∧ ls.length ≤ 12 ∧ (∀ l ∈ ls, ∃ d ∈ W.deeds, d.lab = l) ∧ Q (.l ((deedsOf W ls).map Deed.enc)) n
def sp_w_fails : DSpec := fun rs n Q => ∃ (W : Wd) (s : Sta) (ds : List Deed), rs = [.d W.enc, .d s.enc, .r (ds.map Deed.enc)] ∧ WdOk W ∧ s.am.length = W.counts.length ∧ (∀ d ∈ ds, DeedOk W.counts.length d) ∧ ∀ x, isNone x = okRun W ds s → Q (.d x) n
section
variable {P : Program} {w : World} {K : PySem.W.Frag} {mg : Str → Option Value} {base : Heap} {ns : List Int} {k m : Nat}
theorem vac_w_holds {sp : DSpec} (B : Bs K mg) (h : ∀ rs n Q, ¬ sp rs n Q) : Fn P w K mg base ns "_law_holds" k ["_law_condition_here", "_law_state"] [] sp := by
  obtain ⟨fd, F⟩ := B.says.def_ 21 (d := d_w_holds) rfl
  exact ⟨_, fd, _, fnok_vac h, B.glo 21 _ rfl, F.kp, .nil, F.bindsN fun _ _ _ _ _ _ us hl => match us, hl with | [_, _], _ => rfl⟩
def nm_w_holds : List Str := ["_law_condition_here", "_law_state", "_law_word", "_law_sides", "_law_side"]
theorem sc_w_holds : FnScope nm_w_holds ["_law_condition_here", "_law_state"] (defScope s_w_holds) := ⟨rfl, rfl, rfl, by decide +kernel, rfl, by decide +kernel, by decide +kernel⟩
/- slots of w_holds: 0 _law_condition_here, 1 _law_state, 2 _law_word, 3 _law_sides, 4 _law_side -/
theorem ok_w_holds (B : Bs K mg) (H_w_holds : Fn P w K mg base ns "_law_holds" k ["_law_condition_here", "_law_state"] [] (sp_holds m)) : Fn P w K mg base ns "_law_holds" (k + 1) ["_law_condition_here", "_law_state"] [] (sp_holds (m + 1)) := by
  obtain ⟨fd, F⟩ := B.says.def_ 21 (d := d_w_holds) rfl
  refine ⟨_, fd, _, okD (ns := ns) F sc_w_holds (fun rs n Q h => ?len) (fun cdv A outer s H E hr => ⟨_, PSs.nox (pss_cons (ps_set (i := 2) sc_w_holds.nd rfl (.inl rfl) (pe_ix (ixA hr.units) (pv 0) pe_int (fun _ _ => rfl)))
      (pss_cons (ps_if (pt_cmpR (op_inM hr.units) (pv 2) (pe_tup (pa_cons pe_str (pa_cons pe_str pa_nil))) (by rfl)) (pss_one (ps_ret (pe_cmpR (op_eqM hr.units) (pv 2) pe_str (nomark _)))) pss_nil)
      (pss_cons (ps_if (pt_cmpR (op_eqM hr.units) (pv 2) pe_str (nomark _)) (pss_one (ps_ret (pe_cmpR (op_eqM hr.units) (pe_op op_and (pe_op op_shr (pe_ix (ixA hr.units) (pv 1) pe_int (fun _ _ => rfl)) (pe_ix (ixA hr.units) (pv 0) pe_int (fun _ _ => rfl))) pe_int) pe_int (nomark _)))) pss_nil)
      (pss_cons (ps_if (pt_cmpR (op_eqM hr.units) (pv 2) pe_str (nomark _)) (pss_one (ps_ret (pe_cmpR op_ge (pe_ix (ixA hr.units) (pe_ix (ixA hr.units) (pv 1) pe_int (fun _ _ => rfl)) (pe_ix (ixA hr.units) (pv 0) pe_int (fun _ _ => rfl)) (fun _ _ => rfl)) (pe_ix (ixA hr.units) (pv 0) pe_int (fun _ _ => rfl)) (nomark _)))) pss_nil)
      (pss_cons (ps_if (pt_cmpR (op_eqM hr.units) (pv 2) pe_str (nomark _)) (pss_one (ps_ret (pe_not (pe_fn H_w_holds (hr.mono (by omega)) (by rfl) (pa_cons (pe_ix (ixA hr.units) (pv 0) pe_int (fun _ _ => rfl)) (pa_cons (pv 1) pa_nil)))))) pss_nil)
      (pss_cons (ps_setLc (i := 3) (own := [("_law_side", 4)]) (g := gName 4) (tt := tYes) (te := (tCall (spOf ⟨K, ns, w⟩ (sp_holds m)) [] E0 (tCons (tVar 4) (tCons (tVar 1) tNil)))) rfl sc_w_holds.nd rfl rfl (sw_true rfl rfl rfl (by decide +kernel)) (pi_tup (pe_slice slD (pv 0) (po_some pe_int) po_none)) (blkOk_by (own := [("_law_side", 4)]) (N := nm_w_holds) (sc := defScope s_w_holds) (by decide +kernel)) (fun _ _ _ _ _ => (pg_name (i := 4) sc_w_holds.nd rfl (.inl rfl))) (fun _ _ _ _ _ => pts_nil) (fun _ _ _ _ _ => (pe_fn H_w_holds (hr.mono (by omega)) (by rfl) (pa_cons (pv 4) (pa_cons (pv 1) pa_nil)))))
      (pss_one (ps_ret (pe_ifExp (pt_cmpR (op_eqM hr.units) (pv 2) pe_str (nomark _)) (pe_and (pe_ix (ixA hr.units) (pv 3) pe_int (fun _ _ => rfl)) (pe_one (pe_ix (ixA hr.units) (pv 3) pe_int (fun _ _ => rfl)))) (pe_or (pe_ix (ixA hr.units) (pv 3) pe_int (fun _ _ => rfl)) (pe_one (pe_ix (ixA hr.units) (pv 3) pe_int (fun _ _ => rfl))))))))))))), fun rs n Q h => ?walk⟩), B.glo 21 _ rfl, F.kp, .nil, F.bindsN fun _ _ _ _ _ _ us hl => match us, hl with | [_, _], _ => rfl⟩
  case len =>
    obtain ⟨_, _, rfl, _⟩ := h
    rfl
  case walk =>
    obtain ⟨c, s, rfl, hd, ho, hQ⟩ := h
    cases c with
    | tru =>
      show SW _ _ [.d (Cond.enc .tru), .d s.enc, .u, .u, .u] n _
      dsimp only [cxOf]
      walk_at "go"
      rw [decide_eq_true rfl]; exact hQ
    | fls =>
      show SW _ _ [.d (Cond.enc .fls), .d s.enc, .u, .u, .u] n _
      dsimp only [cxOf]
      walk_at "go"
      rw [decide_eq_false (by decide +kernel)]; exact hQ
    | fact i =>
      show SW _ _ [.d (Cond.enc (.fact i)), .d s.enc, .u, .u, .u] n _
      dsimp only [cxOf]
      walk_at "go"
      rw [Int.toNat_natCast, shr_one]
      simp only [holds] at hQ
      cases e : s.bits.testBit i <;> rw [e] at hQ <;> exact hQ
    | least i z =>
      show SW _ _ [.d (Cond.enc (.least i z)), .d s.enc, .u, .u, .u] n _
      dsimp only [cxOf]
      walk_at "go"
      refine ow_ixT (amt_atD ho) ?_
      walk_at "go"
      exact hQ
    | nt c =>
      show SW _ _ [.d (Cond.enc (.nt c)), .d s.enc, .u, .u, .u] n _
      dsimp only [cxOf]
      walk_at "go"
      refine ⟨c, s, rfl, Nat.le_of_succ_le_succ hd, ho, ?_⟩
      walk_at "go"
      exact hQ
    | an a b =>
      show SW _ _ [.d (Cond.enc (.an a b)), .d s.enc, .u, .u, .u] n _
      dsimp only [cxOf]
      have hd' : max a.dep b.dep + 1 ≤ m + 1 := hd
      walk_at "go"
      refine lw_T (xs := [.str "and", a.enc, b.enc]) ?_
      walk_at "go"
      refine ⟨a, s, rfl, by omega, ho.1, rfl, ?_⟩
      walk_at "go"
      refine ⟨b, s, rfl, by omega, ho.2, rfl, ?_⟩
      walk_at "go"
      · refine comp_nil ?_
        walk_at "go"
        refine ow_ixL (.inr rfl) (d := .bool (holds a s)) rfl ?_
        walk_at "go"
        simp only [holds] at hQ
        refine br_2 (fun b1 => ?_) (fun b1 => ?_)
        · rw [b1] at hQ
          walk_at "go"
          refine ow_ixL (.inr rfl) (d := .bool (holds b s)) rfl ?_
          exact hQ
        · rw [b1] at hQ
          exact hQ
    | orr a b =>
      show SW _ _ [.d (Cond.enc (.orr a b)), .d s.enc, .u, .u, .u] n _
      dsimp only [cxOf]
      have hd' : max a.dep b.dep + 1 ≤ m + 1 := hd
      walk_at "go"
      refine lw_T (xs := [.str "or", a.enc, b.enc]) ?_
      walk_at "go"
      refine ⟨a, s, rfl, by omega, ho.1, rfl, ?_⟩
      walk_at "go"
      refine ⟨b, s, rfl, by omega, ho.2, rfl, ?_⟩
      walk_at "go"
      · refine comp_nil ?_
        walk_at "go"
        refine ow_ixL (.inr rfl) (d := .bool (holds a s)) rfl ?_
        walk_at "go"
        simp only [holds] at hQ
        refine br_2 (fun b1 => ?_) (fun b1 => ?_)
        · rw [b1] at hQ
          exact hQ
        · rw [b1] at hQ
          walk_at "go"
          refine ow_ixL (.inr rfl) (d := .bool (holds b s)) rfl ?_
          exact hQ
theorem fn_w_holds (B : Bs K mg) : ∀ m : Nat, Fn P w K mg base ns "_law_holds" m ["_law_condition_here", "_law_state"] [] (sp_holds m)
  | 0 => vac_w_holds B fun rs n Q h => by
    obtain ⟨c, s, _, hd, _⟩ := h
    have := c.dep_pos
    omega
  | m + 1 => ok_w_holds B (fn_w_holds B m)
def nm_w_done : List Str := ["_law_plain", "_law_deed_here", "_law_state", "_law_amounts", "_law_k", "_law_amount"]
theorem sc_w_done : FnScope nm_w_done ["_law_plain", "_law_deed_here", "_law_state"] (defScope s_w_done) := ⟨rfl, rfl, rfl, by decide +kernel, rfl, by decide +kernel, by decide +kernel⟩
/- slots of w_done: 0 _law_plain, 1 _law_deed_here, 2 _law_state, 3 _law_amounts, 4 _law_k, 5 _law_amount -/
theorem ok_w_done (B : Bs K mg) (H_w_holds : Fn P w K mg base ns "_law_holds" 8 ["_law_condition_here", "_law_state"] [] (sp_holds 8)) : Fn P w K mg base ns "_law_done" (8 + 1) ["_law_plain", "_law_deed_here", "_law_state"] [] sp_w_done := by
  obtain ⟨fd, F⟩ := B.says.def_ 22 (d := d_w_done) rfl
  refine ⟨_, fd, _, okD (ns := ns) F sc_w_done (fun rs n Q h => ?len) (fun cdv A outer s H E hr => ⟨_, PSs.nox (pss_cons (ps_if (pt_not (pt_val (pe_fn H_w_holds (hr.mono (by omega)) (by rfl) (pa_cons (pe_ix (ixA hr.units) (pv 1) pe_int (fun _ _ => rfl)) (pa_cons (pv 2) pa_nil))))) (pss_one (ps_ret pe_non)) pss_nil)
      (pss_cons (ps_set (i := 3) sc_w_done.nd rfl (.inl rfl) (pe_callTy call_listA (by rfl) (B.free 44 _ rfl) (by decide +kernel) (pa_cons (pe_ix (ixA hr.units) (pv 2) pe_int (fun _ _ => rfl)) pa_nil)))
      (pss_cons (ps_for PassesOwn.never rfl (pi_tup (pe_ix (ixA hr.units) (pv 1) pe_int (fun _ _ => rfl))) (pg_tup (n := 2) rfl (pgs_cons (pg_name (i := 4) sc_w_done.nd rfl (.inl rfl)) (pgs_cons (pg_name (i := 5) sc_w_done.nd rfl (.inl rfl)) pgs_nil))) (pss_cons (ps_asg (pe_op op_plus (pe_ix (ixA hr.units) (pv 3) (pv 4) (fun _ _ => rfl)) (pv 5)) (pg_sub (pv 3) (pv 4) set_list))
      (pss_one (ps_if (pt_not (pt_chain op_le op_le (pe_ix (ixA hr.units) (pe_ix (ixA hr.units) (pe_ix (ixA hr.units) (pv 0) pe_int (fun _ _ => rfl)) (pv 4) (fun _ _ => rfl)) pe_int (fun _ _ => rfl)) (pe_ix (ixA hr.units) (pv 3) (pv 4) (fun _ _ => rfl)) (pe_ix (ixA hr.units) (pe_ix (ixA hr.units) (pe_ix (ixA hr.units) (pv 0) pe_int (fun _ _ => rfl)) (pv 4) (fun _ _ => rfl)) pe_int (fun _ _ => rfl)))) (pss_one (ps_ret pe_non)) pss_nil))))
      (pss_one (ps_ret (pe_tup (pa_cons (pe_op op_or (pe_op op_and (pe_ix (ixA hr.units) (pv 2) pe_int (fun _ _ => rfl)) (pe_un un_inv (pe_ix (ixA hr.units) (pv 1) pe_int (fun _ _ => rfl)))) (pe_ix (ixA hr.units) (pv 1) pe_int (fun _ _ => rfl))) (pa_cons (pe_callTy call_tupA (by rfl) (B.free 50 _ rfl) (by decide +kernel) (pa_cons (pv 3) pa_nil)) pa_nil)))))))), fun rs n Q h => ?walk⟩), B.glo 22 _ rfl, F.kp, .nil, F.bindsN fun _ _ _ _ _ _ us hl => match us, hl with | [_, _, _], _ => rfl⟩
  case len =>
    obtain ⟨_, _, _, rfl, _⟩ := h
    rfl
  case walk =>
    obtain ⟨W, d, s, rfl, hl, hd, hQ⟩ := h
    show SW _ _ [.d W.enc, .d d.enc, .d s.enc, .u, .u, .u] n _
    dsimp only [cxOf]
    walk_at "go"
    refine ⟨_, _, rfl, hd.ndep, by rw [hl]; exact hd.need, ?_⟩
    walk_at "go"
    rw [done] at hQ
    refine br_2 (fun b1 => ?_) (fun b1 => ?_)
    · simp only [Bool.not_eq_true'] at b1
      walk_at "go"
      rw [if_neg (by rw [b1]; exact Bool.false_ne_true)] at hQ
      exact hQ
    · simp only [Bool.not_eq_false'] at b1
      walk_at "go"
      rw [if_pos b1] at hQ
      refine loop_inv (fun ds G n' => ∃ ms am a1 a2, ds = List.map mvD ms ∧ G = [.d W.enc, .d d.enc, .d s.enc, .l (List.map PyData.int am), a1, a2] ∧ n' = n ∧ am.length = W.counts.length ∧ (∀ m ∈ ms, m.1 < W.counts.length) ∧ ms.Pairwise (fun a b => a.1 ≠ b.1) ∧ (∀ m ∈ ms, amt am m.1 = amt s.am m.1) ∧ moved ms am = moved d.moves s.am ∧ beyond W.counts s.am ms = beyond W.counts s.am d.moves) ?_ ?_ _ _ _ ⟨d.moves, s.am, _, _, rfl, rfl, rfl, hl, hd.mv, hd.apart, fun _ _ => rfl, rfl, rfl⟩
      · rintro G n' ⟨ms, am, a1, a2, e, rfl, rfl, _, _, _, _, em, eb⟩
        cases ms with
        | cons _ _ => cases e
        | nil =>
          walk_at "go"
          rw [bits_done]
          rw [← eb] at hQ
          rw [moved] at em
          rw [em]
          exact hQ
      · rintro x ds G n' ⟨ms, am, a1, a2, e, rfl, rfl, hal, hm, hap, hsame, em, eb⟩
        cases ms with
        | nil => cases e
        | cons m ms =>
          rw [List.map_cons] at e
          obtain ⟨rfl, rfl⟩ := List.cons.inj e
          have h1 := hm m (List.mem_cons_self ..)
          have h1a : m.1 < am.length := hal ▸ h1
          have hs1 := hsame m (List.mem_cons_self ..)
          obtain ⟨hap1, hap2⟩ := List.pairwise_cons.1 hap
          walk_at "put2"
          walk_at "go"
          refine ow_ixL (.inr rfl) (amt_atD h1a) ?_
          walk_at "go"
          refine ⟨_, _, rfl, ixN_nat (by rw [List.length_map]; exact h1a), ?_⟩
          rw [← List.map_set]
          walk_at "go"
          refine ow_ixT (cnt_atD h1) ?_
          walk_at "go"
          refine ow_ixL (.inr rfl) (amt_atD (by rw [List.length_set]; exact h1a)) ?_
          rw [amt_set_eq h1a]
          walk_at "go"
          rw [beyond] at eb
          unfold fits at eb
          rw [← hs1] at eb
          refine br_2 (fun b1 => ?_) (fun b1 => ?_)
          · walk_at "go"
            refine ow_ixT (cnt_atD h1) ?_
            walk_at "go"
            refine br_2 (fun b2 => ?_) (fun b2 => ?_)
            · simp only [Bool.not_eq_true'] at b2
              walk_at "go"
              rw [b1, b2] at eb
              rw [← eb] at hQ
              exact hQ
            · simp only [Bool.not_eq_false'] at b2
              walk_at "go"
              rw [b1, b2] at eb
              exact ⟨ms, _, _, _, rfl, rfl, rfl, by rw [List.length_set]; exact hal, fun z hz => hm z (List.mem_cons_of_mem _ hz), hap2, fun z hz => by
                rw [amt_set_ne (hap1 z hz)]
                exact hsame z (List.mem_cons_of_mem _ hz), em, eb⟩
          · walk_at "go"
            rw [b1] at eb
            rw [← eb] at hQ
            exact hQ
theorem vac_w_part {sp : DSpec} (B : Bs K mg) (h : ∀ rs n Q, ¬ sp rs n Q) : Fn P w K mg base ns "_law_part" k ["_law_condition_here", "_law_state"] [] sp := by
  obtain ⟨fd, F⟩ := B.says.def_ 33 (d := d_w_part) rfl
  exact ⟨_, fd, _, fnok_vac h, B.glo 33 _ rfl, F.kp, .nil, F.bindsN fun _ _ _ _ _ _ us hl => match us, hl with | [_, _], _ => rfl⟩
def nm_w_part : List Str := ["_law_condition_here", "_law_state", "_law_first"]
theorem sc_w_part : FnScope nm_w_part ["_law_condition_here", "_law_state"] (defScope s_w_part) := ⟨rfl, rfl, rfl, by decide +kernel, rfl, by decide +kernel, by decide +kernel⟩
/- slots of w_part: 0 _law_condition_here, 1 _law_state, 2 _law_first -/
theorem ok_w_part (B : Bs K mg) (H_w_part : Fn P w K mg base ns "_law_part" (8 + k) ["_law_condition_here", "_law_state"] [] (sp_w_part m)) (H_w_holds : Fn P w K mg base ns "_law_holds" 8 ["_law_condition_here", "_law_state"] [] (sp_holds 8)) : Fn P w K mg base ns "_law_part" ((8 + k) + 1) ["_law_condition_here", "_law_state"] [] (sp_w_part (m + 1)) := by
  obtain ⟨fd, F⟩ := B.says.def_ 33 (d := d_w_part) rfl
  refine ⟨_, fd, _, okD (ns := ns) F sc_w_part (fun rs n Q h => ?len) (fun cdv A outer s H E hr => ⟨_, PSs.nox (pss_cons (ps_if (pt_val (pe_fn H_w_holds (hr.mono (by omega)) (by rfl) (pa_cons (pv 0) (pa_cons (pv 1) pa_nil)))) (pss_one (ps_ret pe_non)) pss_nil)
      (pss_cons (ps_if (pt_cmpR (op_neM hr.units) (pe_ix (ixA hr.units) (pv 0) pe_int (fun _ _ => rfl)) pe_str (nomark _)) (pss_one (ps_ret (pv 0))) pss_nil)
      (pss_cons (ps_set (i := 2) sc_w_part.nd rfl (.inl rfl) (pe_fn H_w_part (hr.mono (by omega)) (by rfl) (pa_cons (pe_ix (ixA hr.units) (pv 0) pe_int (fun _ _ => rfl)) (pa_cons (pv 1) pa_nil))))
      (pss_one (ps_ret (pe_ifExp (pt_cmpR op_none (pv 2) pe_non (nomark _)) (pe_fn H_w_part (hr.mono (by omega)) (by rfl) (pa_cons (pe_ix (ixA hr.units) (pv 0) pe_int (fun _ _ => rfl)) (pa_cons (pv 1) pa_nil))) (pv 2))))))), fun rs n Q h => ?walk⟩), B.glo 33 _ rfl, F.kp, .nil, F.bindsN fun _ _ _ _ _ _ us hl => match us, hl with | [_, _], _ => rfl⟩
  case len =>
    obtain ⟨_, _, rfl, _⟩ := h
    rfl
  case walk =>
    obtain ⟨c, s, rfl, hd, h8, ho, hQ⟩ := h
    show SW _ _ [.d c.enc, .d s.enc, .u] n _
    dsimp only [cxOf]
    walk_at "go"
    refine ⟨_, _, rfl, h8, ho, ?_⟩
    walk_at "go"
    rw [partD] at hQ
    refine br_2 (fun b1 => ?_) (fun b1 => ?_)
    · walk_at "go"
      rw [if_pos b1] at hQ
      exact hQ
    · walk_at "go"
      rw [if_neg (by rw [b1]; exact Bool.false_ne_true)] at hQ
      cases c with
      | an a b =>
        walk_at "go"
        have hd2 : max a.dep b.dep + 1 ≤ m + 1 := hd
        have h82 : max a.dep b.dep + 1 ≤ 8 := h8
        refine ⟨a, s, rfl, by omega, by omega, ho.1, rfl, ?_⟩
        walk_at "go"
        rw [reason] at hQ
        simp only [holds] at b1
        cases e : holds a s with
        | true =>
          rw [partD, if_pos e]
          walk_at "go"
          refine ⟨b, s, rfl, by omega, by omega, ho.2, rfl, ?_⟩
          rw [if_pos e] at hQ
          rw [partD, if_neg (by rw [e] at b1; rw [show holds b s = false from b1]; exact Bool.false_ne_true)]
          exact hQ
        | false =>
          rw [partD, if_neg (by rw [e]; exact Bool.false_ne_true), cond_some]
          walk_at "go"
          rw [if_neg (by rw [e]; exact Bool.false_ne_true)] at hQ
          exact hQ
      | _ =>
        walk_at "go"
        exact hQ
theorem fn_w_part (B : Bs K mg) : ∀ m : Nat, Fn P w K mg base ns "_law_part" (8 + m) ["_law_condition_here", "_law_state"] [] (sp_w_part m)
  | 0 => vac_w_part B fun rs n Q h => by
    obtain ⟨c, s, _, hd, _⟩ := h
    have := c.dep_pos
    omega
  | m + 1 => ok_w_part B (fn_w_part B m) (fn_w_holds B 8)
def nm_w_deeds : List Str := ["_law_plain", "_law_plan", "_law_by_label", "_law_label", "_law_deed_here"]
theorem sc_w_deeds : FnScope nm_w_deeds ["_law_plain", "_law_plan"] (defScope s_w_deeds) := ⟨rfl, rfl, rfl, by decide +kernel, rfl, by decide +kernel, by decide +kernel⟩
/- slots of w_deeds: 0 _law_plain, 1 _law_plan, 2 _law_by_label, 3 _law_label, 4 _law_deed_here -/
theorem ok_w_deeds (B : Bs K mg) : Fn P w K mg base ns "_law_deeds" (0 + 1) ["_law_plain", "_law_plan"] [] sp_w_deeds := by
  obtain ⟨fd, F⟩ := B.says.def_ 29 (d := d_w_deeds) rfl
  refine ⟨_, fd, _, okD (ns := ns) F sc_w_deeds (fun rs n Q h => ?len) (fun cdv A outer s H E hr => ⟨_, PSs.nox (pss_cons (ps_set (i := 2) sc_w_deeds.nd rfl (.inr rfl) (pe_callTy (call_dict rfl hr.units) (by rfl) (B.free 39 _ rfl) (by decide +kernel) (pa_cons (pe_lc (own := [("_law_deed_here", 4)]) (g := gName 4) (tt := tYes) (te := (tTup (tCons (tOp (rIxA K w) (tVar 4) (tC (V.int 0))) (tCons (tVar 4) tNil)))) rfl sc_w_deeds.nd (pi_tup (pe_ix (ixA hr.units) (pv 0) pe_int (fun _ _ => rfl))) (blkOk_by (own := [("_law_deed_here", 4)]) (N := nm_w_deeds) (sc := defScope s_w_deeds) (by decide +kernel)) (fun _ _ _ _ _ => (pg_name (i := 4) sc_w_deeds.nd rfl (.inl rfl))) (fun _ _ _ _ _ => pts_nil) (fun _ _ _ _ _ => (pe_tup (pa_cons (pe_ix (ixA hr.units) (pv 4) pe_int (fun _ _ => rfl)) (pa_cons (pv 4) pa_nil))))) pa_nil)))
      (pss_one (ps_ret (pe_lc (own := [("_law_label", 3)]) (g := gName 3) (tt := tYes) (te := (tOp (rIxA K w) (tVar 2) (tVar 3))) rfl sc_w_deeds.nd (pi_tup (pv 1)) (blkOk_by (own := [("_law_label", 3)]) (N := nm_w_deeds) (sc := defScope s_w_deeds) (by decide +kernel)) (fun _ _ _ _ _ => (pg_name (i := 3) sc_w_deeds.nd rfl (.inl rfl))) (fun _ _ _ _ _ => pts_nil) (fun _ _ _ _ _ => (pe_ix (ixA hr.units) (pv 2) (pv 3) (fun _ _ => rfl))))))), fun rs n Q h => ?walk⟩), B.glo 29 _ rfl, F.kp, .nil, F.bindsN fun _ _ _ _ _ _ us hl => match us, hl with | [_, _], _ => rfl⟩
  case len =>
    obtain ⟨_, _, rfl, _⟩ := h
    rfl
  case walk =>
    obtain ⟨W, ls, rfl, hW, hl, hm, hQ⟩ := h
    show SW _ _ [.d W.enc, .d (.tuple ls), .u, .u, .u] n _
    dsimp only [cxOf]
    walk_at "go"
    refine ⟨by have := hW.dds; rw [List.length_map]; omega, comp_mapE Deed.enc (fun d => .tuple [d.lab, d.enc]) _ _ (fun d hd => ?_) ?_⟩
    · walk_at "put1"
      walk_at "go"
    · walk_at "go"
      rw [List.nil_append, prs_pr]
      refine cw_dict (.inl rfl) hW.prs ?_
      walk_at "go"
      refine ⟨by omega, comp_mapD (fun l => ((find W.deeds l).map Deed.enc).getD .none) _ _ (fun l hl' => ?_) ?_⟩
      · obtain ⟨d, e1, _, _, e2⟩ := hW.look (hm l hl')
        have hL := hW.labs (hm l hl')
        obtain ⟨zs, rfl⟩ := hL.tup
        walk_at "put1"
        walk_at "go"
        exact ow_ixD hL.key hL.dep e2 ⟨rfl, by rw [e1]; rfl⟩
      · rw [List.nil_append, deeds_map hm]
        exact hQ
def nm_w_fails : List Str := ["_law_plain", "_law_state", "_law_deeds_here", "_law_place", "_law_deed_here"]
theorem sc_w_fails : FnScope nm_w_fails ["_law_plain", "_law_state", "_law_deeds_here"] (defScope s_w_fails) := ⟨rfl, rfl, rfl, by decide +kernel, rfl, by decide +kernel, by decide +kernel⟩
/- slots of w_fails: 0 _law_plain, 1 _law_state, 2 _law_deeds_here, 3 _law_place, 4 _law_deed_here -/
theorem ok_w_fails (B : Bs K mg) (H_w_holds : Fn P w K mg base ns "_law_holds" 8 ["_law_condition_here", "_law_state"] [] (sp_holds 8)) (H_w_done : Fn P w K mg base ns "_law_done" 9 ["_law_plain", "_law_deed_here", "_law_state"] [] sp_w_done) : Fn P w K mg base ns "_law_fails" (9 + 1) ["_law_plain", "_law_state", "_law_deeds_here"] [] sp_w_fails := by
  obtain ⟨fd, F⟩ := B.says.def_ 30 (d := d_w_fails) rfl
  refine ⟨_, fd, _, okD (ns := ns) F sc_w_fails (fun rs n Q h => ?len) (fun cdv A outer s H E hr => ⟨_, PSs.nox (pss_cons (ps_for PassesOwn.never rfl (pi_enum (by rfl) (B.free 40 _ rfl) (pa_cons (pv 2) pa_nil)) (pg_tup (n := 2) rfl (pgs_cons (pg_name (i := 3) sc_w_fails.nd rfl (.inl rfl)) (pgs_cons (pg_name (i := 4) sc_w_fails.nd rfl (.inl rfl)) pgs_nil))) (pss_cons (ps_set (i := 1) sc_w_fails.nd rfl (.inl rfl) (pe_fn H_w_done (hr.mono (by omega)) (by rfl) (pa_cons (pv 0) (pa_cons (pv 4) (pa_cons (pv 1) pa_nil)))))
      (pss_one (ps_if (pt_cmpR op_none (pv 1) pe_non (nomark _)) (pss_one (ps_ret (pv 3))) pss_nil))))
      (pss_one (ps_ret (pe_ifExp (pt_val (pe_fn H_w_holds (hr.mono (by omega)) (by rfl) (pa_cons (pe_ix (ixA hr.units) (pv 0) pe_int (fun _ _ => rfl)) (pa_cons (pv 1) pa_nil)))) pe_non (pe_callB call_lenA (by rfl) (B.free 43 _ rfl) PySem.boot_len (pa_cons (pv 2) pa_nil)))))), fun rs n Q h => ?walk⟩), B.glo 30 _ rfl, F.kp, .nil, F.bindsN fun _ _ _ _ _ _ us hl => match us, hl with | [_, _, _], _ => rfl⟩
  case len =>
    obtain ⟨_, _, _, rfl, _⟩ := h
    rfl
  case walk =>
    obtain ⟨W, s, ds, rfl, hW, hl, hd, hQ⟩ := h
    show SW _ _ [.d W.enc, .d s.enc, .r (ds.map Deed.enc), .u, .u] n _
    dsimp only [cxOf]
    walk_at "go"
    refine loop_inv (fun es G n' => ∃ pre r s' a b, es = enumD pre (List.map Deed.enc r) ∧ G = [.d W.enc, .d (Sta.enc s'), .r (ds.map Deed.enc), a, b] ∧ n' = n ∧ s'.am.length = W.counts.length ∧ (∀ d ∈ r, DeedOk W.counts.length d) ∧ okRun W r s' = okRun W ds s) ?_ ?_ _ _ _ ⟨0, ds, s, _, _, rfl, rfl, rfl, hl, hd, rfl⟩
    · rintro G n' ⟨pre, r, s', a, b, e, rfl, rfl, hl', _, er⟩
      cases r with
      | cons _ _ => cases e
      | nil =>
        walk_at "go"
        refine ⟨W.wish, s', rfl, hW.wdep, by rw [hl']; exact hW.wish, ?_⟩
        walk_at "go"
        rw [okRun] at er
        refine br_2 (fun b1 => ?_) (fun b1 => ?_)
        · walk_at "go"
          exact hQ _ (by rw [← er, b1]; rfl)
        · walk_at "go"
          exact hQ _ (by rw [← er, b1]; rfl)
    · rintro x es G n' ⟨pre, r, s', a, b, e, rfl, rfl, hl', hr, er⟩
      cases r with
      | nil => cases e
      | cons d r =>
        rw [List.map_cons, enumD] at e
        obtain ⟨rfl, rfl⟩ := List.cons.inj e
        walk_at "put2"
        walk_at "go"
        refine ⟨W, d, s', rfl, hl', hr d (List.mem_cons_self ..), rfl, ?_⟩
        walk_at "go"
        rw [okRun] at er
        cases ed : done W.counts d s' with
        | none =>
          rw [ed] at er
          walk_at "go"
          exact hQ _ er
        | some s2 =>
          rw [ed] at er
          walk_at "go"
          refine ⟨pre + 1, r, s2, _, _, rfl, rfl, rfl, ?_, fun z hz => hr z (List.mem_cons_of_mem _ hz), er⟩
          rw [done] at ed
          by_cases h1 : holds d.need s' = true
          · rw [if_pos h1] at ed
            by_cases h2 : beyond W.counts s'.am d.moves = none
            · rw [if_pos h2] at ed
              cases ed
              exact (moved_len d.moves s'.am).trans hl'
            · rw [if_neg h2] at ed
              cases ed
          · rw [if_neg h1] at ed
            cases ed
end
end Dd
set_option Elab.async false
set_option linter.all false
set_option maxRecDepth 100000
set_option autoImplicit false
set_option maxHeartbeats 1000000
/-! Pg: how a tree fails, by the law. -/
namespace Dd
open PySem PySem.Spec PyProof.Rows L2 Dl
local macro_rules | `(tactic| walk_at "dx.var") => `(tactic| ((with_reducible show EW _ (tVar _) _ _ _); first
  | (refine ew_varD rfl ?_) | (refine ew_varR rfl ?_) | (refine ew_varL rfl ?_) | (refine ew_varW rfl ?_) | (refine ew_varS rfl ?_) | (refine ew_varT rfl ?_)))
local macro_rules | `(tactic| walk_at "dx.ew") => `(tactic| first
  | (walk_at "dx.var")
  | (with_reducible refine ew_int ?_) | ((with_reducible refine ew_str ?hh ?_); (case hh => decide +kernel)) | (with_reducible refine ew_bl ?_) | (with_reducible refine ew_non ?_)
  | ((with_reducible show EW _ (tOp (rIxA _ _) (tVar _) (tC (.int 0))) _ _ _); refine ew_w0 rfl ?_) | ((with_reducible show EW _ (tOp (rIxA _ _) (tVar _) (tC (.int 1))) _ _ _); refine ew_w1 rfl ?_)
  | (with_reducible refine ew_op ?_) | (with_reducible refine ew_un ?_) | (with_reducible refine ew_tupE ?_) | (with_reducible refine ew_lstE ?_) | (with_reducible refine ew_isi ?_) | (with_reducible refine ew_cb ?_)
  | (with_reducible refine ew_andV ?_) | (with_reducible refine ew_orV ?_) | (with_reducible refine ew_notV ?_) | (with_reducible refine ew_call ?_) | (with_reducible refine ew_callD ?_) | ((with_reducible refine ew_lc1 ?hq ?_); (case hq => exact rfl)) | ((with_reducible refine ew_lc2 ?hq ?hq2 ?_); (case hq => exact rfl); (case hq2 => exact rfl)) | (with_reducible refine ew_if ?_) | (with_reducible refine ew_chain ?_) | (with_reducible refine ew_sl ?_) | (with_reducible refine ew_bmS ?_) | (with_reducible refine ew_back ?_))
local macro_rules | `(tactic| walk_at "dx.ow") => `(tactic| first
  | (with_reducible refine ow_addI ?_) | (with_reducible refine ow_eqI ?_) | (with_reducible refine ow_eqS ?_) | (with_reducible refine ow_neI ?_) | (with_reducible refine ow_neS ?_) | (with_reducible refine ow_neN (.inr rfl) (.inl rfl) ?_) | (with_reducible refine ow_eqN (.inr rfl) (.inl rfl) ?_) | ((with_reducible refine ow_inT ?hmm ?_); (case hmm => exact Nat.le_of_ble_eq_true rfl)) | (with_reducible refine ow_isN ?_) | (with_reducible refine ow_noN ?_)
  | (with_reducible refine ow_intB ?_) | (with_reducible refine ow_int ?_) | ((with_reducible refine ow_intC ?hc ?_); (case hc => first | decide | omega))
  | ((with_reducible show OW _ (rIxA _ _) _ _ _); refine ow_ixT rfl ?_))
local macro_rules | `(tactic| walk_at "dx.sw") => `(tactic| first
  | (walk_at "dx.for") | (with_reducible refine sw_seq ?_) | (with_reducible refine sw_next ?_) | ((with_reducible show SW _ (tDrop (tCall _ _ _ _)) _ _ _); refine sw_expr ?_) | (with_reducible refine sw_cont ?_) | (with_reducible refine sw_ret ?_) | (with_reducible refine sw_retN ?_) | (with_reducible refine sw_if ?_)
  | ((with_reducible show SW _ (tAsg (tBM0 _ _ rPop (tVar _)) _) _ _ _); refine sw_pop2 (Nat.le_of_ble_eq_true rfl) (Nat.le_of_ble_eq_true rfl) rfl ?_; dsimp only [List.set])
  | ((with_reducible show SW _ (tDrop (tBM _ _ rExtend _ _)) _ _ _); refine sw_extend rfl ?_) | ((with_reducible show SW _ (tDrop (tBM0 _ _ rReverse _)) _ _ _); refine sw_reverse rfl ?_)
  | ((with_reducible show SW _ (tAsg _ (gSub (tVar _) _ _)) _ _ _); first | (refine sw_draw rfl ?_) | (refine sw_store rfl ?_))
  | ((with_reducible refine sw_set ?hi ?_); (case hi => exact Nat.le_of_ble_eq_true rfl))
  | ((with_reducible refine sw_par ?hi ?hj ?_); (case hi => exact Nat.le_of_ble_eq_true rfl); (case hj => exact Nat.le_of_ble_eq_true rfl); dsimp only [List.set])
  | ((with_reducible refine sw_asg2 ?hi ?hj ?_); (case hi => exact Nat.le_of_ble_eq_true rfl); (case hj => exact Nat.le_of_ble_eq_true rfl); dsimp only [List.set])
  | ((with_reducible refine sw_asg3 ?hi ?hj ?hk ?_); (case hi => exact Nat.le_of_ble_eq_true rfl); (case hj => exact Nat.le_of_ble_eq_true rfl); (case hk => exact Nat.le_of_ble_eq_true rfl); dsimp only [List.set])
  | ((with_reducible refine sw_aug (a := ?aa) ?hi ?_); (case hi => exact rfl); dsimp only [List.set]))
local macro_rules | `(tactic| walk_at "dx.for") => `(tactic| first
  | (with_reducible refine sw_for1 ?_) | (with_reducible refine sw_for2 ?_))
local macro_rules | `(tactic| walk_at "dx.misc") => `(tactic| first
  | (with_reducible refine ea_cons ?_) | (with_reducible refine ea_nil ?_)
  | (with_reducible refine tw_test ?_) | (with_reducible refine tw_B ?_) | (with_reducible refine tw_and ?_) | (with_reducible refine tw_or ?_) | (with_reducible refine tw_not ?_) | (with_reducible refine tw_yes ?_)
  | (with_reducible refine wi_tup ?_) | (with_reducible refine wi_enumT ?_) | (with_reducible refine wi_zipT ?_) | (with_reducible refine wi_rev ?_) | (with_reducible refine wi_range ?_) | (refine wi_enum rfl ?_) | (refine wi_var rfl ?_) | ((with_reducible show WI _ (iList _ (tCall _ _ _ _)) _ _ _); refine wi_new ?_) | (with_reducible refine uw_int ?_) | (with_reducible refine op_no ?_) | (with_reducible refine op_int ?_)
  | ((with_reducible show Br (decide ((_ : Int) < _)) _ _); first | (refine br_t rfl ?_) | (refine br_f rfl ?_)) | ((with_reducible show Br (decide ((_ : Int) ≤ _)) _ _); first | (refine br_t rfl ?_) | (refine br_f rfl ?_)) | ((with_reducible show Br (decide ((_ : Int) = _)) _ _); first | (refine br_t rfl ?_) | (refine br_f rfl ?_)) | ((with_reducible show Br (!decide ((_ : Int) = _)) _ _); first | (refine br_t rfl ?_) | (refine br_f rfl ?_))
  | ((with_reducible show Br (isNone _) _ _); first | (refine br_t rfl ?_) | (refine br_f rfl ?_)) | ((with_reducible show Br (!isNone _) _ _); first | (refine br_t rfl ?_) | (refine br_f rfl ?_))
  | ((with_reducible show Br true _ _); refine br_t rfl ?_) | ((with_reducible show Br false _ _); refine br_f rfl ?_) | (refine br_t (by decide +kernel) ?_) | (refine br_f (by decide +kernel) ?_)
  | (with_reducible refine cw_lenT ?_) | (with_reducible refine cw_listT ?_) | (with_reducible refine cw_tupL (.inr rfl) ?_) | (with_reducible refine cw_tupL (.inl rfl) ?_) | (with_reducible refine cw_lenL (.inr rfl) ?_) | (with_reducible refine cw_lenL (.inl rfl) ?_) | (with_reducible refine cw_lenW ?_)
  | (refine ⟨_, _, rfl, kit_ii, ?_⟩) | (refine ⟨_, _, rfl, kit_ib, ?_⟩) | (refine ⟨_, _, rfl, kit_tt, ?_⟩) | (refine ⟨_, _, rfl, kit_ss, ?_⟩)
  | (with_reducible refine ⟨_, rfl, ?_⟩) | (refine ⟨_, rfl, Nat.le_of_ble_eq_true rfl, ?_⟩) | (with_reducible refine ⟨_, _, rfl, ?_⟩) | (with_reducible refine ⟨_, _, _, rfl, ?_⟩) | ((with_reducible refine ⟨(fun _ z => nomatch z), ?_⟩); dsimp only [List.set]) | (refine ⟨_, _, rfl, by decide +kernel, ?_⟩) | (refine ⟨Nat.le_of_ble_eq_true rfl, ?_⟩) | (with_reducible refine ⟨rfl, ?_⟩) | dsimp only)
local macro_rules | `(tactic| walk_at "dx") => `(tactic| first
  | ((with_reducible show EW _ _ _ _ _); walk_at "dx.ew") | ((with_reducible show SW _ _ _ _ _); walk_at "dx.sw") | ((with_reducible show OW _ _ _ _ _); walk_at "dx.ow") | (walk_at "dx.misc"))
local macro_rules | `(tactic| walk_at "go") => `(tactic| repeat walk_at "dx")
local macro_rules | `(tactic| walk_at "put1") => `(tactic| (refine ⟨Nat.le_of_ble_eq_true rfl, _, rfl, ?_⟩; dsimp only [wipeG, List.map, List.set]))
local macro_rules | `(tactic| walk_at "put2") => `(tactic| (refine ⟨⟨Nat.le_of_ble_eq_true rfl, Nat.le_of_ble_eq_true rfl⟩, _, rfl, ?_⟩; dsimp only [wipeG, List.map, List.set]))
section
variable {P : Program} {w : World} {K : PySem.W.Frag} {mg : Str → Option Value} {base : Heap} {ns : List Int} {k m : Nat}
def nm_w_gone : List Str := ["_law_plain", "_law_first", "_law_tree_here", "_law_by_label", "_law_state", "_law_path", "_law_bit", "_law_deed_here", "_law_behind", "_law_part_here", "_law_beyond", "_law_k", "_law_amount"]
theorem sc_w_gone : FnScope nm_w_gone ["_law_plain", "_law_first", "_law_tree_here"] (defScope s_w_gone) := ⟨rfl, rfl, rfl, by decide +kernel, rfl, by decide +kernel, by decide +kernel⟩
/- slots of w_gone: 0 _law_plain, 1 _law_first, 2 _law_tree_here, 3 _law_by_label, 4 _law_state, 5 _law_path, 6 _law_bit, 7 _law_deed_here, 8 _law_behind, 9 _law_part_here, 10 _law_beyond, 11 _law_k, 12 _law_amount -/
theorem ok_w_gone (B : Bs K mg) (H_w_part : Fn P w K mg base ns "_law_part" 16 ["_law_condition_here", "_law_state"] [] (sp_w_part 8)) (H_w_done : Fn P w K mg base ns "_law_done" 9 ["_law_plain", "_law_deed_here", "_law_state"] [] sp_w_done) : Fn P w K mg base ns "_law_gone" (20 + 1) ["_law_plain", "_law_first", "_law_tree_here"] [] sp_w_gone := by
  obtain ⟨fd, F⟩ := B.says.def_ 34 (d := d_w_gone) rfl
  refine ⟨_, fd, _, okD (ns := ns) F sc_w_gone (fun rs n Q h => ?len) (fun cdv A outer s H E hr => ⟨_, PSs.nox (pss_cons (ps_set (i := 3) sc_w_gone.nd rfl (.inl rfl) (pe_callTy (call_dict rfl hr.units) (by rfl) (B.free 39 _ rfl) (by decide +kernel) (pa_cons (pe_lc (own := [("_law_deed_here", 7)]) (g := gName 7) (tt := tYes) (te := (tTup (tCons (tOp (rIxA K w) (tVar 7) (tC (V.int 0))) (tCons (tVar 7) tNil)))) rfl sc_w_gone.nd (pi_tup (pe_ix (ixA hr.units) (pv 0) pe_int (fun _ _ => rfl))) (blkOk_by (own := [("_law_deed_here", 7)]) (N := nm_w_gone) (sc := defScope s_w_gone) (by decide +kernel)) (fun _ _ _ _ _ => (pg_name (i := 7) sc_w_gone.nd rfl (.inl rfl))) (fun _ _ _ _ _ => pts_nil) (fun _ _ _ _ _ => (pe_tup (pa_cons (pe_ix (ixA hr.units) (pv 7) pe_int (fun _ _ => rfl)) (pa_cons (pv 7) pa_nil))))) pa_nil)))
      (pss_cons (ps_asg (pe_tup (pa_cons (pv 1) (pa_cons (pe_tup pa_nil) pa_nil))) (pg_tup (n := 2) rfl (pgs_cons (pg_name (i := 4) sc_w_gone.nd rfl (.inr rfl)) (pgs_cons (pg_name (i := 5) sc_w_gone.nd rfl (.inl rfl)) pgs_nil))))
      (pss_cons (ps_while PassesOwn.never (pt_cmpR (op_neM hr.units) (pe_ix (ixA hr.units) (pv 2) pe_int (fun _ _ => rfl)) pe_str (nomark _)) (pss_cons (ps_if (pt_cmpR (op_eqM hr.units) (pe_ix (ixA hr.units) (pv 2) pe_int (fun _ _ => rfl)) pe_str (nomark _)) (pss_cons (ps_set (i := 6) sc_w_gone.nd rfl (.inl rfl) (pe_op op_and (pe_op op_shr (pe_ix (ixA hr.units) (pv 4) pe_int (fun _ _ => rfl)) (pe_ix (ixA hr.units) (pv 2) pe_int (fun _ _ => rfl))) pe_int))
      (pss_cons (ps_set (i := 5) sc_w_gone.nd rfl (.inl rfl) (pe_op op_plus (pv 5) (pe_tup (pa_cons (pe_tup (pa_cons pe_str (pa_cons (pe_ix (ixA hr.units) (pv 2) pe_int (fun _ _ => rfl)) (pa_cons (pv 6) pa_nil)))) pa_nil))))
      (pss_cons (ps_set (i := 2) sc_w_gone.nd rfl (.inl rfl) (pe_ifExp (pt_cmpR (op_eqM hr.units) (pv 6) pe_int (nomark _)) (pe_ix (ixA hr.units) (pv 2) pe_int (fun _ _ => rfl)) (pe_ix (ixA hr.units) (pv 2) pe_int (fun _ _ => rfl))))
      (pss_one ps_continue)))) pss_nil)
      (pss_cons (ps_set (i := 7) sc_w_gone.nd rfl (.inl rfl) (pe_ix (ixA hr.units) (pv 3) (pe_ix (ixA hr.units) (pv 2) pe_int (fun _ _ => rfl)) (fun _ _ => rfl)))
      (pss_cons (ps_set (i := 8) sc_w_gone.nd rfl (.inl rfl) (pe_fn H_w_done (hr.mono (by omega)) (by rfl) (pa_cons (pv 0) (pa_cons (pv 7) (pa_cons (pv 4) pa_nil)))))
      (pss_cons (ps_if (pt_cmpR op_none (pv 8) pe_non (nomark _)) (pss_cons (ps_set (i := 9) sc_w_gone.nd rfl (.inl rfl) (pe_fn H_w_part (hr.mono (by omega)) (by rfl) (pa_cons (pe_ix (ixA hr.units) (pv 7) pe_int (fun _ _ => rfl)) (pa_cons (pv 4) pa_nil))))
      (pss_cons (ps_setLc (i := 10) (own := [("_law_k", 11), ("_law_amount", 12)]) (g := gTup K 2 (gCons (gName 11) (gCons (gName 12) gNil))) (tt := (tNot (tTest (tChain (rI0 fun i j => V.bl (decide (i ≤ j))) (rI0 fun i j => V.bl (decide (i ≤ j))) (tOp (rIxA K w) (tOp (rIxA K w) (tOp (rIxA K w) (tVar 0) (tC (V.int 1))) (tVar 11)) (tC (V.int 1))) (tOp (rPlus K) (tOp (rIxA K w) (tOp (rIxA K w) (tVar 4) (tC (V.int 1))) (tVar 11)) (tVar 12)) (tOp (rIxA K w) (tOp (rIxA K w) (tOp (rIxA K w) (tVar 0) (tC (V.int 1))) (tVar 11)) (tC (V.int 2))))))) (te := (tVar 11)) rfl sc_w_gone.nd rfl rfl (sw_true rfl rfl rfl (by decide +kernel)) (pi_tup (pe_ix (ixA hr.units) (pv 7) pe_int (fun _ _ => rfl))) (blkOk_by (own := [("_law_k", 11), ("_law_amount", 12)]) (N := nm_w_gone) (sc := defScope s_w_gone) (by decide +kernel)) (fun _ _ _ _ _ => (pg_tup (n := 2) rfl (pgs_cons (pg_name (i := 11) sc_w_gone.nd rfl (.inl rfl)) (pgs_cons (pg_name (i := 12) sc_w_gone.nd rfl (.inl rfl)) pgs_nil)))) (fun _ _ _ _ _ => pts_one (pt_not (pt_chain op_le op_le (pe_ix (ixA hr.units) (pe_ix (ixA hr.units) (pe_ix (ixA hr.units) (pv 0) pe_int (fun _ _ => rfl)) (pv 11) (fun _ _ => rfl)) pe_int (fun _ _ => rfl)) (pe_op op_plus (pe_ix (ixA hr.units) (pe_ix (ixA hr.units) (pv 4) pe_int (fun _ _ => rfl)) (pv 11) (fun _ _ => rfl)) (pv 12)) (pe_ix (ixA hr.units) (pe_ix (ixA hr.units) (pe_ix (ixA hr.units) (pv 0) pe_int (fun _ _ => rfl)) (pv 11) (fun _ _ => rfl)) pe_int (fun _ _ => rfl))))) (fun _ _ _ _ _ => (pv 11)))
      (pss_one (ps_ret (pe_tup (pa_cons (pv 1) (pa_cons (pv 5) (pa_cons (pe_ifExp (pt_cmpR op_none (pv 9) pe_non (nomark _)) (pe_tup (pa_cons pe_str (pa_cons (pe_ix (ixA hr.units) (pv 10) pe_int (fun _ _ => rfl)) pa_nil))) (pv 9)) pa_nil)))))))) pss_nil)
      (pss_cons (ps_set (i := 5) sc_w_gone.nd rfl (.inl rfl) (pe_op op_plus (pv 5) (pe_tup (pa_cons (pe_tup (pa_cons pe_str (pa_cons (pe_ix (ixA hr.units) (pv 2) pe_int (fun _ _ => rfl)) pa_nil))) pa_nil))))
      (pss_one (ps_asg (pe_tup (pa_cons (pv 8) (pa_cons (pe_ix (ixA hr.units) (pv 2) pe_int (fun _ _ => rfl)) pa_nil))) (pg_tup (n := 2) rfl (pgs_cons (pg_name (i := 4) sc_w_gone.nd rfl (.inr rfl)) (pgs_cons (pg_name (i := 2) sc_w_gone.nd rfl (.inl rfl)) pgs_nil)))))))))))
      (pss_cons (ps_set (i := 9) sc_w_gone.nd rfl (.inl rfl) (pe_fn H_w_part (hr.mono (by omega)) (by rfl) (pa_cons (pe_ix (ixA hr.units) (pv 0) pe_int (fun _ _ => rfl)) (pa_cons (pv 4) pa_nil))))
      (pss_one (ps_ret (pe_ifExp (pt_cmpR op_none (pv 9) pe_non (nomark _)) pe_non (pe_tup (pa_cons (pv 1) (pa_cons (pv 5) (pa_cons (pv 9) pa_nil))))))))))), fun rs n Q h => ?walk⟩), B.glo 34 _ rfl, F.kp, .nil, F.bindsN fun _ _ _ _ _ _ us hl => match us, hl with | [_, _, _], _ => rfl⟩
  case len =>
    obtain ⟨_, _, _, rfl, _⟩ := h
    rfl
  case walk =>
    obtain ⟨W, f, t, rfl, hW, hl, ht, hd, hQ⟩ := h
    show SW _ _ [.d W.enc, .d f.enc, .d t.enc, .u, .u, .u, .u, .u, .u, .u, .u, .u, .u] n _
    dsimp only [cxOf]
    walk_at "go"
    refine ⟨by have := hW.dds; rw [List.length_map]; omega, comp_mapE Deed.enc (fun d => .tuple [d.lab, d.enc]) _ _ (fun d hd => ?_) ?_⟩
    · walk_at "put1"
      walk_at "go"
    · walk_at "go"
      rw [List.nil_append, prs_pr]
      refine cw_dict (.inl rfl) hW.prs ?_
      walk_at "go"
      refine while_inv (fun m G n' => ∃ (s : Sta) (t' : Tree) (ps : List PyData) (a b c d e g h : Rs), G = [.d W.enc, .d f.enc, .d t'.enc, .t (prs W), .d s.enc, .d (.tuple ps), a, b, c, d, e, g, h] ∧ n' = n ∧ s.am.length = W.counts.length ∧ t'.ok W ∧ t'.deep ≤ m ∧ m + ps.length ≤ 20 ∧ run W t' s ps = run W t f []) ?_ 20 _ _ ⟨f, t, [], _, _, _, _, _, _, _, rfl, rfl, hl, ht, hd, Nat.le_refl _, rfl⟩
      rintro m G n' ⟨s, t', ps, a, b, c, d', e, g, h, rfl, rfl, hs, ho, hm, hp, er⟩
      cases t' with
      | done =>
        walk_at "go"
        refine ⟨W.wish, s, rfl, hW.wdep, hW.wdep, by rw [hs]; exact hW.wish, rfl, ?_⟩
        rw [run] at er
        rw [partD]
        cases eh : holds W.wish s with
        | true =>
          rw [if_pos eh] at er
          rw [if_pos rfl]
          walk_at "go"
          rw [failing, ← er] at hQ
          exact hQ
        | false =>
          rw [if_neg (by rw [eh]; exact Bool.false_ne_true)] at er
          rw [if_neg Bool.false_ne_true]
          walk_at "go"
          rw [cond_some]
          walk_at "go"
          rw [failing, ← er] at hQ
          exact hQ
      | doo l t' =>
        obtain ⟨o1, o2⟩ := ho
        obtain ⟨d, e1, hd, e3, e2⟩ := hW.look o1
        have hL := hW.labs o1
        obtain ⟨zs, rfl⟩ := hL.tup
        cases m with
        | zero => exact absurd hm (by simp [Tree.deep])
        | succ m =>
          walk_at "go"
          have hD := hW.deeds d hd
          refine ow_ixD hL.key hL.dep e2 ?_
          walk_at "go"
          refine ⟨W, d, s, rfl, hs, hD, rfl, ?_⟩
          rw [run, e1] at er
          simp only at er
          cases ef : isNone (fault W.counts d s) with
          | true =>
            rw [if_pos ef] at er
            rw [done_fault ef]
            walk_at "go"
            refine ow_addT (by rw [List.length_singleton]; omega) ?_
            walk_at "go"
            have hm2 : t'.deep + 1 ≤ m + 1 := hm
            exact ⟨behind d s, t', _, _, _, _, _, _, _, _, rfl, rfl, (moved_len d.moves s.am).trans hs, o2, by omega, by rw [List.length_append]; show m + (ps.length + 1) ≤ 20; omega, er⟩
          | false =>
            rw [if_neg (by rw [ef]; exact Bool.false_ne_true)] at er
            rw [done_none ef]
            walk_at "go"
            refine ⟨d.need, s, rfl, hD.ndep, hD.ndep, by rw [hs]; exact hD.need, rfl, ?_⟩
            walk_at "go"
            refine ⟨by rw [List.length_map]; have := hD.mlen; omega, comp_fmE mvD (fun m => !fits W.counts s.am m) (fun m => .int (m.1 : Nat)) _ _ (fun m hm => ?_) ?_⟩
            · have h1 := hD.mv m hm
              walk_at "put2"
              walk_at "go"
              refine ow_ixT (cnt_atD h1) ?_
              walk_at "go"
              refine ow_ixT (amt_atD (hs ▸ h1)) ?_
              walk_at "go"
              refine br_2 (fun b1 => ?_) (fun b1 => ?_)
              · walk_at "go"
                refine ow_ixT (cnt_atD h1) ?_
                walk_at "go"
                unfold fits
                rw [b1, Bool.true_and]
                exact ⟨rfl, fun _ => by walk_at "go"⟩
              · walk_at "go"
                unfold fits
                rw [b1, Bool.false_and]
                exact ⟨rfl, fun _ => by walk_at "go"⟩
            · walk_at "go"
              rw [failing, ← er] at hQ
              unfold fault at hQ ef
              cases eh : holds d.need s with
              | false =>
                rw [partD, if_neg (by rw [eh]; exact Bool.false_ne_true), cond_some]
                walk_at "go"
                rw [if_neg (by rw [eh]; exact Bool.false_ne_true)] at hQ
                exact hQ
              | true =>
                rw [partD, if_pos eh]
                walk_at "go"
                rw [if_pos eh] at hQ ef
                cases ebe : beyond W.counts s.am d.moves with
                | none =>
                  rw [ebe] at ef
                  cases ef
                | some i =>
                  rw [ebe] at hQ
                  rw [beyond_filter] at ebe
                  have e0 : (List.map (fun m => PyData.int ((m.1 : Nat) : Int)) (List.filter (fun m => !fits W.counts s.am m) d.moves))[0]? = some (.int (i : Nat)) := by
                    rw [← List.head?_eq_getElem?]
                    rw [List.head?_map] at ebe ⊢
                    cases eq : (List.filter (fun m => !fits W.counts s.am m) d.moves).head? with
                    | none => rw [eq] at ebe; cases ebe
                    | some z =>
                      rw [eq] at ebe
                      cases ebe
                      rfl
                  refine ow_ixL (.inr rfl) (atI_nat (i := 0) e0) ?_
                  walk_at "go"
                  exact hQ
      | ask k x y =>
        obtain ⟨o1, o2, o3⟩ := ho
        cases m with
        | zero => exact absurd hm (by simp [Tree.deep])
        | succ m =>
          walk_at "go"
          have hm2 : max x.deep y.deep + 1 ≤ m + 1 := hm
          rw [Int.toNat_natCast, shr_one]
          refine ow_addT (by rw [List.length_singleton]; omega) ?_
          rw [run] at er
          cases eb : s.bits.testBit k with
          | true =>
            rw [if_pos eb] at er
            rw [if_pos rfl]
            walk_at "go"
            exact ⟨s, x, _, _, _, _, _, _, _, _, rfl, rfl, hs, o2, by omega, by rw [List.length_append]; show m + (ps.length + 1) ≤ 20; omega, er⟩
          | false =>
            rw [if_neg (by rw [eb]; exact Bool.false_ne_true)] at er
            rw [if_neg Bool.false_ne_true]
            walk_at "go"
            exact ⟨s, y, _, _, _, _, _, _, _, _, rfl, rfl, hs, o3, by omega, by rw [List.length_append]; show m + (ps.length + 1) ≤ 20; omega, er⟩
end
end Dd
set_option Elab.async false
set_option linter.all false
set_option maxRecDepth 100000
set_option autoImplicit false
set_option maxHeartbeats 1000000
/-! Ph: numbers that are drawn, bits. -/
namespace Dd
open PySem PySem.Spec PyProof.Rows L2 Dl
local macro_rules | `(tactic| walk_at "dx.var") => `(tactic| ((with_reducible show EW _ (tVar _) _ _ _); first
  | (refine ew_varD rfl ?_) | (refine ew_varR rfl ?_) | (refine ew_varL rfl ?_) | (refine ew_varW rfl ?_) | (refine ew_varS rfl ?_) | (refine ew_varT rfl ?_)))
local macro_rules | `(tactic| walk_at "dx.ew") => `(tactic| first
  | (walk_at "dx.var")
  | (with_reducible refine ew_int ?_) | ((with_reducible refine ew_str ?hh ?_); (case hh => decide +kernel)) | (with_reducible refine ew_bl ?_) | (with_reducible refine ew_non ?_)
  | ((with_reducible show EW _ (tOp (rIxA _ _) (tVar _) (tC (.int 0))) _ _ _); refine ew_w0 rfl ?_) | ((with_reducible show EW _ (tOp (rIxA _ _) (tVar _) (tC (.int 1))) _ _ _); refine ew_w1 rfl ?_)
  | (with_reducible refine ew_op ?_) | (with_reducible refine ew_un ?_) | (with_reducible refine ew_tupE ?_) | (with_reducible refine ew_lstE ?_) | (with_reducible refine ew_isi ?_) | (with_reducible refine ew_cb ?_)
  | (with_reducible refine ew_andV ?_) | (with_reducible refine ew_orV ?_) | (with_reducible refine ew_notV ?_) | (with_reducible refine ew_call ?_) | (with_reducible refine ew_callD ?_) | ((with_reducible refine ew_lc1 ?hq ?_); (case hq => exact rfl)) | ((with_reducible refine ew_lc2 ?hq ?hq2 ?_); (case hq => exact rfl); (case hq2 => exact rfl)) | (with_reducible refine ew_if ?_) | (with_reducible refine ew_chain ?_) | (with_reducible refine ew_sl ?_) | (with_reducible refine ew_bmS ?_) | (with_reducible refine ew_back ?_))
local macro_rules | `(tactic| walk_at "dx.ow") => `(tactic| first
  | (with_reducible refine ow_addI ?_) | (with_reducible refine ow_eqI ?_) | (with_reducible refine ow_eqS ?_) | (with_reducible refine ow_neI ?_) | (with_reducible refine ow_neS ?_) | (with_reducible refine ow_neN (.inr rfl) (.inl rfl) ?_) | (with_reducible refine ow_eqN (.inr rfl) (.inl rfl) ?_) | ((with_reducible refine ow_inT ?hmm ?_); (case hmm => exact Nat.le_of_ble_eq_true rfl)) | (with_reducible refine ow_isN ?_) | (with_reducible refine ow_noN ?_)
  | (with_reducible refine ow_intB ?_) | (with_reducible refine ow_int ?_) | ((with_reducible refine ow_intC ?hc ?_); (case hc => first | decide | omega | exact ⟨by decide, by decide⟩ | exact ⟨by omega, by omega⟩ | exact ⟨by decide, by decide, by decide⟩ | exact ⟨by omega, by omega, by decide⟩))
  | ((with_reducible refine ow_mulI ?hcm ?_); (case hcm => first | exact Or.inl ⟨by decide, by decide⟩ | exact Or.inr ⟨by decide, by decide⟩ | exact Or.inl ⟨by omega, by omega⟩ | exact Or.inr ⟨by omega, by omega⟩))
  | ((with_reducible show OW _ (rIxA _ _) (Rs.d _) (Rs.d _) _); refine ow_ixT rfl ?_))
local macro_rules | `(tactic| walk_at "dx.sw") => `(tactic| first
  | (walk_at "dx.for") | (with_reducible refine sw_seq ?_) | (with_reducible refine sw_next ?_) | ((with_reducible show SW _ (tDrop (tCall _ _ _ _)) _ _ _); refine sw_expr ?_) | (with_reducible refine sw_cont ?_) | (with_reducible refine sw_ret ?_) | (with_reducible refine sw_retN ?_) | (with_reducible refine sw_if ?_)
  | ((with_reducible show SW _ (tAsg (tBM0 _ _ rPop (tVar _)) _) _ _ _); refine sw_pop2 (Nat.le_of_ble_eq_true rfl) (Nat.le_of_ble_eq_true rfl) rfl ?_; dsimp only [List.set])
  | ((with_reducible show SW _ (tDrop (tBM _ _ rExtend _ _)) _ _ _); refine sw_extend rfl ?_) | ((with_reducible show SW _ (tDrop (tBM0 _ _ rReverse _)) _ _ _); refine sw_reverse rfl ?_)
  | ((with_reducible show SW _ (tAsg _ (gSub (tVar _) _ _)) _ _ _); first | (refine sw_draw rfl ?_) | (refine sw_store rfl ?_))
  | ((with_reducible refine sw_set ?hi ?_); (case hi => exact Nat.le_of_ble_eq_true rfl))
  | ((with_reducible refine sw_par ?hi ?hj ?_); (case hi => exact Nat.le_of_ble_eq_true rfl); (case hj => exact Nat.le_of_ble_eq_true rfl); dsimp only [List.set])
  | ((with_reducible refine sw_asg2 ?hi ?hj ?_); (case hi => exact Nat.le_of_ble_eq_true rfl); (case hj => exact Nat.le_of_ble_eq_true rfl); dsimp only [List.set])
  | ((with_reducible refine sw_asg3 ?hi ?hj ?hk ?_); (case hi => exact Nat.le_of_ble_eq_true rfl); (case hj => exact Nat.le_of_ble_eq_true rfl); (case hk => exact Nat.le_of_ble_eq_true rfl); dsimp only [List.set])
  | ((with_reducible refine sw_aug (a := ?aa) ?hi ?_); (case hi => exact rfl); dsimp only [List.set]))
local macro_rules | `(tactic| walk_at "dx.for") => `(tactic| first
  | (with_reducible refine sw_for1 ?_) | (with_reducible refine sw_for2 ?_))
local macro_rules | `(tactic| walk_at "dx.misc") => `(tactic| first
  | (with_reducible refine ea_cons ?_) | (with_reducible refine ea_nil ?_)
  | (with_reducible refine tw_test ?_) | (with_reducible refine tw_B ?_) | (with_reducible refine tw_and ?_) | (with_reducible refine tw_or ?_) | (with_reducible refine tw_not ?_) | (with_reducible refine tw_yes ?_)
  | (with_reducible refine wi_tup ?_) | (with_reducible refine wi_enumT ?_) | (with_reducible refine wi_zipT ?_) | (with_reducible refine wi_rev ?_) | (with_reducible refine wi_range ?_) | (refine wi_enum rfl ?_) | (refine wi_var rfl ?_) | ((with_reducible show WI _ (iList _ (tCall _ _ _ _)) _ _ _); refine wi_new ?_) | (with_reducible refine uw_int ?_) | (with_reducible refine op_no ?_) | (with_reducible refine op_int ?_)
  | ((with_reducible show Br (decide ((_ : Int) < _)) _ _); first | (refine br_t rfl ?_) | (refine br_f rfl ?_)) | ((with_reducible show Br (decide ((_ : Int) ≤ _)) _ _); first | (refine br_t rfl ?_) | (refine br_f rfl ?_)) | ((with_reducible show Br (decide ((_ : Int) = _)) _ _); first | (refine br_t rfl ?_) | (refine br_f rfl ?_)) | ((with_reducible show Br (!decide ((_ : Int) = _)) _ _); first | (refine br_t rfl ?_) | (refine br_f rfl ?_))
  | ((with_reducible show Br (isNone _) _ _); first | (refine br_t rfl ?_) | (refine br_f rfl ?_)) | ((with_reducible show Br (!isNone _) _ _); first | (refine br_t rfl ?_) | (refine br_f rfl ?_))
  | ((with_reducible show Br true _ _); refine br_t rfl ?_) | ((with_reducible show Br false _ _); refine br_f rfl ?_) | (refine br_t (by decide +kernel) ?_) | (refine br_f (by decide +kernel) ?_)
  | (with_reducible refine cw_lenT ?_) | (with_reducible refine cw_listT ?_) | (with_reducible refine cw_tupL (.inr rfl) ?_) | (with_reducible refine cw_tupL (.inl rfl) ?_) | (with_reducible refine cw_lenL (.inr rfl) ?_) | (with_reducible refine cw_lenL (.inl rfl) ?_) | (with_reducible refine cw_lenW ?_)
  | (refine ⟨_, _, rfl, kit_ii, ?_⟩) | (refine ⟨_, _, rfl, kit_ib, ?_⟩) | (refine ⟨_, _, rfl, kit_tt, ?_⟩) | (refine ⟨_, _, rfl, kit_ss, ?_⟩)
  | (with_reducible refine ⟨_, rfl, ?_⟩) | (refine ⟨_, rfl, Nat.le_of_ble_eq_true rfl, ?_⟩) | (with_reducible refine ⟨_, _, rfl, ?_⟩) | (with_reducible refine ⟨_, _, _, rfl, ?_⟩) | ((with_reducible refine ⟨(fun _ z => nomatch z), ?_⟩); dsimp only [List.set]) | (refine ⟨_, _, rfl, by decide +kernel, ?_⟩) | (refine ⟨Nat.le_of_ble_eq_true rfl, ?_⟩) | (with_reducible refine ⟨rfl, ?_⟩) | dsimp only)
local macro_rules | `(tactic| walk_at "dx") => `(tactic| first
  | ((with_reducible show EW _ _ _ _ _); walk_at "dx.ew") | ((with_reducible show SW _ _ _ _ _); walk_at "dx.sw") | ((with_reducible show OW _ _ _ _ _); walk_at "dx.ow") | (walk_at "dx.misc"))
local macro_rules | `(tactic| walk_at "go") => `(tactic| repeat walk_at "dx")
local macro_rules | `(tactic| walk_at "put1") => `(tactic| (refine ⟨Nat.le_of_ble_eq_true rfl, _, rfl, ?_⟩; dsimp only [wipeG, List.map, List.set]))
local macro_rules | `(tactic| walk_at "put2") => `(tactic| (refine ⟨⟨Nat.le_of_ble_eq_true rfl, Nat.le_of_ble_eq_true rfl⟩, _, rfl, ?_⟩; dsimp only [wipeG, List.map, List.set]))
def Num (v : Int) : Prop := 0 ≤ v ∧ v ≤ 33554431
theorem num_of (a : Int) : Num (a * 48271 % 2147483647 * 69621 % 2147483629 / 64) := by
  unfold Num
  omega
def sp_w_cell : DSpec := fun rs n Q => ∃ k : Int, rs = [.s, .d (.int k)] ∧ 0 ≤ k ∧ k ≤ 1000000 ∧ ∀ v, Num v → Q (.d (.int v)) n
def sp_w_mixed : DSpec := fun rs n Q => ∃ a k : Int, rs = [.d (.int a), .d (.int k)] ∧ 0 ≤ k ∧ k ≤ 1000000 ∧ ∀ v, Num v → Q (.d (.int v)) n
def sp_w_next : DSpec := fun rs n Q => rs = [.w] ∧ 0 ≤ n ∧ n ≤ 100000 ∧ ∀ v, Num v → Q (.d (.int v)) (n + 1)
def sp_w_bits : DSpec := fun rs n Q => ∃ (a : Int) (F : Nat) (many : Int), rs = [.d (.int a), .d (.int (F : Nat)), .d (.int many)] ∧ 1 ≤ F ∧ F ≤ 12 ∧ 0 ≤ many ∧ many ≤ 1000 ∧ ∀ v : Nat, v < 2 ^ F → Q (.d (.int (v : Nat))) n
section
variable {P : Program} {w : World} {K : PySem.W.Frag} {mg : Str → Option Value} {base : Heap} {ns : List Int} {k m : Nat}
def nm_w_cell : List Str := ["_law_script", "_law_k", "_law_cell_here"]
theorem sc_w_cell : FnScope nm_w_cell ["_law_script", "_law_k"] (defScope s_w_cell) := ⟨rfl, rfl, rfl, by decide +kernel, rfl, by decide +kernel, by decide +kernel⟩
/- slots of w_cell: 0 _law_script, 1 _law_k, 2 _law_cell_here -/
theorem ok_w_cell (B : Bs K mg) : Fn P w K mg base ns "_law_cell" (0 + 1) ["_law_script", "_law_k"] [] sp_w_cell := by
  obtain ⟨fd, F⟩ := B.says.def_ 17 (d := d_w_cell) rfl
  refine ⟨_, fd, _, okD (ns := ns) F sc_w_cell (fun rs n Q h => ?len) (fun cdv A outer s H E hr => ⟨_, PSs.nox (pss_cons (ps_set (i := 2) sc_w_cell.nd rfl (.inl rfl) pe_int)
      (pss_cons (ps_if (pt_cmpR op_gt (pe_callB call_lenA (by rfl) (B.free 43 _ rfl) PySem.boot_len (pa_cons (pv 0) pa_nil)) pe_int (nomark _)) (pss_one (ps_set (i := 2) sc_w_cell.nd rfl (.inl rfl) (pe_op op_mod (pe_ix (ixA hr.units) (pv 0) (pe_op op_mod (pv 1) (pe_callB call_lenA (by rfl) (B.free 43 _ rfl) PySem.boot_len (pa_cons (pv 0) pa_nil))) (fun _ _ => rfl)) pe_int))) pss_nil)
      (pss_one (ps_ret (pe_op op_fdiv (pe_op op_mod (pe_op op_times (pe_op op_mod (pe_op op_times (pe_op op_plus (pe_op op_plus (pv 2) (pe_op op_times (pe_op op_times pe_int (pv 1)) (pv 1))) (pe_op op_times pe_int (pv 1))) pe_int) pe_int) pe_int) pe_int) pe_int))))), fun rs n Q h => ?walk⟩), B.glo 17 _ rfl, F.kp, .nil, F.bindsN fun _ _ _ _ _ _ us hl => match us, hl with | [_, _], _ => rfl⟩
  case len =>
    obtain ⟨_, rfl, _⟩ := h
    rfl
  case walk =>
    obtain ⟨k, rfl, h0, h1, hQ⟩ := h
    show SW _ _ [.s, .d (.int k), .u] n _
    dsimp only [cxOf]
    walk_at "go"
    refine br_2 (fun b1 => ?_) (fun b1 => ?_)
    · have b1 := of_decide_eq_true b1
      walk_at "go"
      have hm0 := Int.emod_nonneg k (show ((ns.length : Nat) : Int) ≠ 0 by omega)
      have hm1 := Int.emod_lt_of_pos k b1
      obtain ⟨j, e, _⟩ := atI_mem hm0 hm1
      refine ow_ixW e ?_
      walk_at "go"
      exact hQ _ (num_of _)
    · walk_at "go"
      exact hQ _ (num_of _)
def nm_w_mixed : List Str := ["_law_number", "_law_k"]
theorem sc_w_mixed : FnScope nm_w_mixed ["_law_number", "_law_k"] (defScope s_w_mixed) := ⟨rfl, rfl, rfl, by decide +kernel, rfl, by decide +kernel, by decide +kernel⟩
/- slots of w_mixed: 0 _law_number, 1 _law_k -/
theorem ok_w_mixed (B : Bs K mg) : Fn P w K mg base ns "_law_mixed" (0 + 1) ["_law_number", "_law_k"] [] sp_w_mixed := by
  obtain ⟨fd, F⟩ := B.says.def_ 18 (d := d_w_mixed) rfl
  refine ⟨_, fd, _, okD (ns := ns) F sc_w_mixed (fun rs n Q h => ?len) (fun cdv A outer s H E hr => ⟨_, PSs.nox (pss_one (ps_ret (pe_op op_fdiv (pe_op op_mod (pe_op op_times (pe_op op_mod (pe_op op_times (pe_op op_plus (pe_op op_plus (pe_op op_plus (pv 0) (pe_op op_times (pe_op op_times pe_int (pv 1)) (pv 1))) (pe_op op_times pe_int (pv 1))) pe_int) pe_int) pe_int) pe_int) pe_int) pe_int))), fun rs n Q h => ?walk⟩), B.glo 18 _ rfl, F.kp, .nil, F.bindsN fun _ _ _ _ _ _ us hl => match us, hl with | [_, _], _ => rfl⟩
  case len =>
    obtain ⟨_, _, rfl, _⟩ := h
    rfl
  case walk =>
    obtain ⟨a, k, rfl, h0, h1, hQ⟩ := h
    show SW _ _ [.d (.int a), .d (.int k)] n _
    dsimp only [cxOf]
    walk_at "go"
    exact hQ _ (num_of _)
def nm_w_next : List Str := ["_law_draw"]
theorem sc_w_next : FnScope nm_w_next ["_law_draw"] (defScope s_w_next) := ⟨rfl, rfl, rfl, by decide +kernel, rfl, by decide +kernel, by decide +kernel⟩
/- slots of w_next: 0 _law_draw -/
theorem ok_w_next (B : Bs K mg) (H_w_cell : Fn P w K mg base ns "_law_cell" 1 ["_law_script", "_law_k"] [] sp_w_cell) : Fn P w K mg base ns "_law_next" (1 + 1) ["_law_draw"] [] sp_w_next := by
  obtain ⟨fd, F⟩ := B.says.def_ 19 (d := d_w_next) rfl
  refine ⟨_, fd, _, okD (ns := ns) F sc_w_next (fun rs n Q h => ?len) (fun cdv A outer s H E hr => ⟨_, PSs.nox (pss_cons (ps_asg (pe_op op_plus (pe_ix (ixA hr.units) (pv 0) pe_int (fun _ _ => rfl)) pe_int) (pg_sub (pv 0) pe_int set_list))
      (pss_one (ps_ret (pe_fn H_w_cell (hr.mono (by omega)) (by rfl) (pa_cons (pe_ix (ixA hr.units) (pv 0) pe_int (fun _ _ => rfl)) (pa_cons (pe_ix (ixA hr.units) (pv 0) pe_int (fun _ _ => rfl)) pa_nil)))))), fun rs n Q h => ?walk⟩), B.glo 19 _ rfl, F.kp, .nil, F.bindsN fun _ _ _ _ _ _ us hl => match us, hl with | [_], _ => rfl⟩
  case len =>
    obtain ⟨rfl, _⟩ := h
    rfl
  case walk =>
    obtain ⟨rfl, h0, h1, hQ⟩ := h
    show SW _ _ [.w] n _
    dsimp only [cxOf]
    walk_at "go"
    refine ⟨n + 1, rfl, by omega, by omega, fun v hv => ⟨rfl, hQ v hv⟩⟩
def nm_w_bits : List Str := ["_law_number", "_law_facts", "_law_many", "_law_found", "_law_k"]
theorem sc_w_bits : FnScope nm_w_bits ["_law_number", "_law_facts", "_law_many"] (defScope s_w_bits) := ⟨rfl, rfl, rfl, by decide +kernel, rfl, by decide +kernel, by decide +kernel⟩
/- slots of w_bits: 0 _law_number, 1 _law_facts, 2 _law_many, 3 _law_found, 4 _law_k -/
theorem ok_w_bits (B : Bs K mg) (H_w_mixed : Fn P w K mg base ns "_law_mixed" 1 ["_law_number", "_law_k"] [] sp_w_mixed) : Fn P w K mg base ns "_law_bits" (1 + 1) ["_law_number", "_law_facts", "_law_many"] [] sp_w_bits := by
  obtain ⟨fd, F⟩ := B.says.def_ 25 (d := d_w_bits) rfl
  refine ⟨_, fd, _, okD (ns := ns) F sc_w_bits (fun rs n Q h => ?len) (fun cdv A outer s H E hr => ⟨_, PSs.nox (pss_cons (ps_set (i := 3) sc_w_bits.nd rfl (.inl rfl) pe_int)
      (pss_cons (ps_for PassesOwn.never rfl (pi_range1 (by rfl) (B.free 46 _ rfl) (pa_cons (pv 2) pa_nil)) (pg_name (i := 4) sc_w_bits.nd rfl (.inl rfl)) (pss_one (ps_set (i := 3) sc_w_bits.nd rfl (.inl rfl) (pe_op op_or (pv 3) (pe_op op_shl pe_int (pe_op op_mod (pe_fn H_w_mixed (hr.mono (by omega)) (by rfl) (pa_cons (pv 0) (pa_cons (pv 4) pa_nil))) (pv 1)))))))
      (pss_one (ps_ret (pv 3))))), fun rs n Q h => ?walk⟩), B.glo 25 _ rfl, F.kp, .nil, F.bindsN fun _ _ _ _ _ _ us hl => match us, hl with | [_, _, _], _ => rfl⟩
  case len =>
    obtain ⟨_, _, _, rfl, _⟩ := h
    rfl
  case walk =>
    obtain ⟨a, F, many, rfl, h1, h2, h3, h4, hQ⟩ := h
    show SW _ _ [.d (.int a), .d (.int (F : Nat)), .d (.int many), .u, .u] n _
    dsimp only [cxOf]
    walk_at "go"
    refine ⟨h3, by omega, loop_inv (fun ds G n' => ∃ (v : Nat) (a1 : Rs), G = [.d (.int a), .d (.int (F : Nat)), .d (.int many), .d (.int (v : Nat)), a1] ∧ n' = n ∧ v < 2 ^ F ∧ ∀ x ∈ ds, ∃ j : Nat, j < 1000 ∧ x = .int (j : Nat)) ?_ ?_ _ _ _ ⟨0, _, rfl, rfl, Nat.two_pow_pos F, fun x hx => ?_⟩⟩
    · rintro G n' ⟨v, a1, rfl, rfl, hv, _⟩
      walk_at "go"
      exact hQ v hv
    · rintro x ds G n' ⟨v, a1, rfl, rfl, hv, hx⟩
      obtain ⟨j, hj, rfl⟩ := hx x (List.mem_cons_self ..)
      walk_at "put1"
      walk_at "go"
      refine ⟨a, _, rfl, by omega, by omega, fun u hu => ⟨rfl, ?_⟩⟩
      walk_at "go"
      obtain ⟨b, eb, hb⟩ : ∃ b : Nat, u % (F : Nat) = (b : Nat) ∧ b < F := ⟨(u % (F : Nat)).toNat, by have := Int.emod_nonneg u (show ((F : Nat) : Int) ≠ 0 by omega); omega, by have := Int.emod_lt_of_pos u (show (0 : Int) < (F : Nat) by omega); have := Int.emod_nonneg u (show ((F : Nat) : Int) ≠ 0 by omega); omega⟩
      rw [eb]
      refine ow_intC ⟨by omega, by omega, by decide⟩ ?_
      rw [pow_cast]
      walk_at "go"
      rw [bitOr_nat]
      exact ⟨_, _, rfl, rfl, Nat.or_lt_two_pow hv (Nat.pow_lt_pow_right (by decide) hb), fun x hx' => hx x (List.mem_cons_of_mem _ hx')⟩
    · obtain ⟨j, hj⟩ := List.mem_iff_getElem?.1 hx
      obtain ⟨h5, rfl⟩ := rangeD_get hj
      exact ⟨j, by omega, by rw [Int.mul_one, Int.zero_add]⟩
end
end Dd
set_option Elab.async false
set_option linter.all false
set_option maxRecDepth 100000
set_option autoImplicit false
set_option maxHeartbeats 1000000
/-! Pi: names. -/
namespace Dd
open PySem PySem.Spec PyProof.Rows L2 Dl
local macro_rules | `(tactic| walk_at "dx.var") => `(tactic| ((with_reducible show EW _ (tVar _) _ _ _); first
  | (refine ew_varD rfl ?_) | (refine ew_varR rfl ?_) | (refine ew_varL rfl ?_) | (refine ew_varW rfl ?_) | (refine ew_varS rfl ?_) | (refine ew_varT rfl ?_)))
local macro_rules | `(tactic| walk_at "dx.ew") => `(tactic| first
  | (walk_at "dx.var")
  | (with_reducible refine ew_int ?_) | ((with_reducible refine ew_str ?hh ?_); (case hh => decide +kernel)) | (with_reducible refine ew_bl ?_) | (with_reducible refine ew_non ?_)
  | ((with_reducible show EW _ (tOp (rIxA _ _) (tVar _) (tC (.int 0))) _ _ _); refine ew_w0 rfl ?_) | ((with_reducible show EW _ (tOp (rIxA _ _) (tVar _) (tC (.int 1))) _ _ _); refine ew_w1 rfl ?_)
  | (with_reducible refine ew_op ?_) | (with_reducible refine ew_un ?_) | (with_reducible refine ew_tupE ?_) | (with_reducible refine ew_lstE ?_) | (with_reducible refine ew_isi ?_) | (with_reducible refine ew_cb ?_)
  | (with_reducible refine ew_andV ?_) | (with_reducible refine ew_orV ?_) | (with_reducible refine ew_notV ?_) | ((with_reducible refine ew_callWv ?hw ?_); (case hw => exact rfl)) | (with_reducible refine ew_call ?_) | (with_reducible refine ew_callD ?_) | ((with_reducible refine ew_lc1 ?hq ?_); (case hq => exact rfl)) | ((with_reducible refine ew_lc2 ?hq ?hq2 ?_); (case hq => exact rfl); (case hq2 => exact rfl)) | (with_reducible refine ew_if ?_) | (with_reducible refine ew_chain ?_) | (with_reducible refine ew_sl ?_) | (with_reducible refine ew_bmS ?_) | (with_reducible refine ew_back ?_))
local macro_rules | `(tactic| walk_at "dx.ow") => `(tactic| first
  | (with_reducible refine ow_addI ?_) | (with_reducible refine ow_eqI ?_) | (with_reducible refine ow_eqS ?_) | (with_reducible refine ow_neI ?_) | (with_reducible refine ow_neS ?_) | (with_reducible refine ow_neN (.inr rfl) (.inl rfl) ?_) | (with_reducible refine ow_eqN (.inr rfl) (.inl rfl) ?_) | ((with_reducible refine ow_inT ?hmm ?_); (case hmm => exact Nat.le_of_ble_eq_true rfl)) | (with_reducible refine ow_isN ?_) | (with_reducible refine ow_noN ?_)
  | (with_reducible refine ow_intB ?_) | (with_reducible refine ow_int ?_) | ((with_reducible refine ow_intC ?hc ?_); (case hc => first | decide | omega | exact ⟨by decide, by decide⟩ | exact ⟨by omega, by omega⟩ | exact ⟨by decide, by decide, by decide⟩ | exact ⟨by omega, by omega, by decide⟩))
  | ((with_reducible refine ow_mulI ?hcm ?_); (case hcm => first | exact Or.inl ⟨by decide, by decide⟩ | exact Or.inr ⟨by decide, by decide⟩ | exact Or.inl ⟨by omega, by omega⟩ | exact Or.inr ⟨by omega, by omega⟩))
  | ((with_reducible show OW _ (rIxA _ _) (Rs.d _) (Rs.d _) _); refine ow_ixT rfl ?_))
local macro_rules | `(tactic| walk_at "dx.sw") => `(tactic| first
  | (walk_at "dx.for") | (with_reducible refine sw_seq ?_) | (with_reducible refine sw_next ?_) | ((with_reducible show SW _ (tDrop (tCall _ _ _ _)) _ _ _); refine sw_expr ?_) | (with_reducible refine sw_cont ?_) | (with_reducible refine sw_ret ?_) | (with_reducible refine sw_retN ?_) | (with_reducible refine sw_if ?_)
  | ((with_reducible show SW _ (tAsg (tBM0 _ _ rPop (tVar _)) _) _ _ _); refine sw_pop2 (Nat.le_of_ble_eq_true rfl) (Nat.le_of_ble_eq_true rfl) rfl ?_; dsimp only [List.set])
  | ((with_reducible show SW _ (tDrop (tBM _ _ rExtend _ _)) _ _ _); refine sw_extend rfl ?_) | ((with_reducible show SW _ (tDrop (tBM0 _ _ rReverse _)) _ _ _); refine sw_reverse rfl ?_)
  | ((with_reducible show SW _ (tAsg _ (gSub (tVar _) _ _)) _ _ _); first | (refine sw_draw rfl ?_) | (refine sw_store rfl ?_))
  | ((with_reducible refine sw_set ?hi ?_); (case hi => exact Nat.le_of_ble_eq_true rfl))
  | ((with_reducible refine sw_par ?hi ?hj ?_); (case hi => exact Nat.le_of_ble_eq_true rfl); (case hj => exact Nat.le_of_ble_eq_true rfl); dsimp only [List.set])
  | ((with_reducible refine sw_asg2 ?hi ?hj ?_); (case hi => exact Nat.le_of_ble_eq_true rfl); (case hj => exact Nat.le_of_ble_eq_true rfl); dsimp only [List.set])
  | ((with_reducible refine sw_asg3 ?hi ?hj ?hk ?_); (case hi => exact Nat.le_of_ble_eq_true rfl); (case hj => exact Nat.le_of_ble_eq_true rfl); (case hk => exact Nat.le_of_ble_eq_true rfl); dsimp only [List.set])
  | ((with_reducible refine sw_aug (a := ?aa) ?hi ?_); (case hi => exact rfl); dsimp only [List.set]))
local macro_rules | `(tactic| walk_at "dx.for") => `(tactic| first
  | (with_reducible refine sw_for1 ?_) | (with_reducible refine sw_for2 ?_))
local macro_rules | `(tactic| walk_at "dx.misc") => `(tactic| first
  | (with_reducible refine ea_cons ?_) | (with_reducible refine ea_nil ?_)
  | (with_reducible refine tw_test ?_) | (with_reducible refine tw_B ?_) | (with_reducible refine tw_and ?_) | (with_reducible refine tw_or ?_) | (with_reducible refine tw_not ?_) | (with_reducible refine tw_yes ?_)
  | (with_reducible refine wi_tup ?_) | (with_reducible refine wi_enumT ?_) | (with_reducible refine wi_zipT ?_) | (with_reducible refine wi_rev ?_) | (with_reducible refine wi_range ?_) | (refine wi_enum rfl ?_) | (refine wi_var rfl ?_) | ((with_reducible show WI _ (iList _ (tCall _ _ _ _)) _ _ _); refine wi_new ?_) | (with_reducible refine uw_int ?_) | (with_reducible refine op_no ?_) | (with_reducible refine op_int ?_)
  | ((with_reducible show Br (decide ((_ : Int) < _)) _ _); first | (refine br_t rfl ?_) | (refine br_f rfl ?_)) | ((with_reducible show Br (decide ((_ : Int) ≤ _)) _ _); first | (refine br_t rfl ?_) | (refine br_f rfl ?_)) | ((with_reducible show Br (decide ((_ : Int) = _)) _ _); first | (refine br_t rfl ?_) | (refine br_f rfl ?_)) | ((with_reducible show Br (!decide ((_ : Int) = _)) _ _); first | (refine br_t rfl ?_) | (refine br_f rfl ?_))
  | ((with_reducible show Br (isNone _) _ _); first | (refine br_t rfl ?_) | (refine br_f rfl ?_)) | ((with_reducible show Br (!isNone _) _ _); first | (refine br_t rfl ?_) | (refine br_f rfl ?_))
  | ((with_reducible show Br true _ _); refine br_t rfl ?_) | ((with_reducible show Br false _ _); refine br_f rfl ?_) | (refine br_t (by decide +kernel) ?_) | (refine br_f (by decide +kernel) ?_)
  | (with_reducible refine cw_lenT ?_) | (with_reducible refine cw_listT ?_) | (with_reducible refine cw_tupL (.inr rfl) ?_) | (with_reducible refine cw_tupL (.inl rfl) ?_) | (with_reducible refine cw_lenL (.inr rfl) ?_) | (with_reducible refine cw_lenL (.inl rfl) ?_) | (with_reducible refine cw_lenW ?_)
  | (refine ⟨_, _, rfl, kit_ii, ?_⟩) | (refine ⟨_, _, rfl, kit_ib, ?_⟩) | (refine ⟨_, _, rfl, kit_tt, ?_⟩) | (refine ⟨_, _, rfl, kit_ss, ?_⟩)
  | (with_reducible refine ⟨_, rfl, ?_⟩) | (refine ⟨_, rfl, Nat.le_of_ble_eq_true rfl, ?_⟩) | (with_reducible refine ⟨_, _, rfl, ?_⟩) | (with_reducible refine ⟨_, _, _, rfl, ?_⟩) | ((with_reducible refine ⟨(fun _ z => nomatch z), ?_⟩); dsimp only [List.set]) | (refine ⟨_, _, rfl, by decide +kernel, ?_⟩) | (refine ⟨Nat.le_of_ble_eq_true rfl, ?_⟩) | (with_reducible refine ⟨rfl, ?_⟩) | dsimp only)
local macro_rules | `(tactic| walk_at "dx") => `(tactic| first
  | ((with_reducible refine ew_demoteL (xs := ?xs) ?hdm ?_); (case hdm => exact rfl); dsimp only [List.set]) | ((with_reducible refine sw_demoteF (xs := ?xs) ?hdm ?_); (case hdm => exact rfl); dsimp only [List.set]) | ((with_reducible refine sw_demoteE (xs := ?xs) ?hdm ?_); (case hdm => exact rfl); dsimp only [List.set])
  | ((with_reducible show EW _ _ _ _ _); walk_at "dx.ew") | ((with_reducible show SW _ _ _ _ _); walk_at "dx.sw") | ((with_reducible show OW _ _ _ _ _); walk_at "dx.ow") | (walk_at "dx.misc"))
local macro_rules | `(tactic| walk_at "go") => `(tactic| repeat walk_at "dx")
local macro_rules | `(tactic| walk_at "put1") => `(tactic| (refine ⟨Nat.le_of_ble_eq_true rfl, _, rfl, ?_⟩; dsimp only [wipeG, List.map, List.set]))
local macro_rules | `(tactic| walk_at "put2") => `(tactic| (refine ⟨⟨Nat.le_of_ble_eq_true rfl, Nat.le_of_ble_eq_true rfl⟩, _, rfl, ?_⟩; dsimp only [wipeG, List.map, List.set]))
def abc : Str := "abcdefghijklmnopqrstuvwxyz"
def Lw (c : Nat) : Prop := 97 ≤ c ∧ c ≤ 122
theorem abc_lw : ∀ c ∈ abc.cps.toList, Lw c := by
  have h : (abc.cps.toList.all fun c => decide (97 ≤ c) && decide (c ≤ 122)) = true := by decide +kernel
  intro c hc
  have := List.all_eq_true.1 h c hc
  rw [Bool.and_eq_true, decide_eq_true_eq, decide_eq_true_eq] at this
  exact this
theorem abc_len : abc.cps.toList.length = 26 := by decide +kernel
theorem abc_at {i : Int} (h0 : 0 ≤ i) (h1 : i < 26) : ∃ c, atI abc.cps.toList i = some c ∧ Lw c := by
  obtain ⟨c, e, hc⟩ := atI_mem (xs := abc.cps.toList) h0 (by rw [abc_len]; exact h1)
  exact ⟨c, e, abc_lw c hc⟩
theorem lw_low {c : Nat} (h : Lw c) : c < 128 := by
  unfold Lw at h
  omega
theorem abc_index {c : Nat} (h : Lw c) : ∃ m rest, Builtin.Str.occurrences abc ⟨#[c]⟩ 0 abc.length 1 = m :: rest := by
  have hk : ((List.range 26).all fun i => !(Builtin.Str.occurrences abc ⟨#[97 + i]⟩ 0 abc.length 1).isEmpty) = true := by decide +kernel
  obtain ⟨i, hi, rfl⟩ : ∃ i, i < 26 ∧ c = 97 + i := ⟨c - 97, by unfold Lw at h; omega, by unfold Lw at h; omega⟩
  have := List.all_eq_true.1 hk i (List.mem_range.2 hi)
  cases e : Builtin.Str.occurrences abc ⟨#[97 + i]⟩ 0 abc.length 1 with
  | nil => rw [e] at this; cases this
  | cons m rest => exact ⟨m, rest, rfl⟩
theorem join_ones : ∀ cs : List Nat, TL.joinL [] (cs.map fun c => [c]) = cs
  | [] => rfl
  | [c] => rfl
  | c :: d :: r => by
    have ih := join_ones (d :: r)
    show [c] ++ ([] ++ TL.joinL [] ((d :: r).map fun c => [c])) = _
    rw [ih]
    rfl
theorem join_txt (cs : List Nat) : Txt.join (Str.ofString "") (cs.map fun c => (⟨#[c]⟩ : Str)) = ⟨cs.toArray⟩ := by
  have h := SX.join_S [] (cs.map fun c => [c])
  rw [List.map_map, join_ones] at h
  exact h
/-- what is paired with texts is a list of texts -/
theorem strs_paired {T : Str → Prop} : ∀ {ds xs : List PyData}, Paired (fun _ x => ∃ s, x = .str s ∧ T s) ds xs → ∃ ss : List Str, xs = ss.map PyData.str ∧ ss.length = ds.length ∧ ∀ s ∈ ss, T s
  | [], _, .nil => ⟨[], rfl, rfl, fun s h => by cases h⟩
  | d :: ds, _, .cons ⟨s, e, h⟩ r => by
    obtain ⟨ss, e2, hl, h2⟩ := strs_paired r
    subst e e2
    refine ⟨s :: ss, rfl, by rw [List.length_cons, List.length_cons, hl], fun t ht => ?_⟩
    rcases List.mem_cons.1 ht with rfl | ht
    · exact h
    · exact h2 t ht
theorem ones_of {ss : List Str} (h : ∀ s ∈ ss, ∃ c, s = ⟨#[c]⟩ ∧ Lw c) : ∃ cs : List Nat, ss = cs.map (fun c => (⟨#[c]⟩ : Str)) ∧ cs.length = ss.length ∧ ∀ c ∈ cs, Lw c := by
  induction ss with
  | nil => exact ⟨[], rfl, rfl, fun c h => by cases h⟩
  | cons s ss ih =>
    obtain ⟨c, rfl, hc⟩ := h s (List.mem_cons_self ..)
    obtain ⟨cs, e, hl, h2⟩ := ih fun s hs => h s (List.mem_cons_of_mem _ hs)
    subst e
    refine ⟨c :: cs, rfl, by rw [List.length_cons, List.length_cons, hl], fun d hd => ?_⟩
    rcases List.mem_cons.1 hd with rfl | hd
    · exact hc
    · exact h2 d hd
def sp_w_names : DSpec := fun rs n Q => ∃ a : Int, rs = [.d (.int a)] ∧ ∀ ss : List Str, ss.length = 16 → (∀ s ∈ ss, s.length ≤ 20) → Q (.l (ss.map PyData.str)) n
section
variable {P : Program} {w : World} {K : PySem.W.Frag} {mg : Str → Option Value} {base : Heap} {ns : List Int} {k m : Nat}
theorem range_nat {lo c : Int} {m : Nat} {x : PyData} (h : x ∈ rangeD lo c m) : ∃ j : Nat, j < m ∧ x = .int (lo + (j : Nat) * c) := by
  obtain ⟨j, hj⟩ := List.mem_iff_getElem?.1 h
  exact ⟨j, rangeD_get hj⟩
def nm_w_names : List Str := ["_law_number", "_law_letters", "_law_base", "_law_size", "_law_at", "_law_signs", "_law_some", "_law_first", "_law_other", "_law_found", "_law_k", "_law_j", "_law_sign"]
theorem sc_w_names : FnScope nm_w_names ["_law_number"] (defScope s_w_names) := ⟨rfl, rfl, rfl, by decide +kernel, rfl, by decide +kernel, by decide +kernel⟩
/- slots of w_names: 0 _law_number, 1 _law_letters, 2 _law_base, 3 _law_size, 4 _law_at, 5 _law_signs, 6 _law_some, 7 _law_first, 8 _law_other, 9 _law_found, 10 _law_k, 11 _law_j, 12 _law_sign -/
theorem ok_w_names (B : Bs K mg) (H_w_mixed : Fn P w K mg base ns "_law_mixed" 1 ["_law_number", "_law_k"] [] sp_w_mixed) : Fn P w K mg base ns "_law_names" (1 + 1) ["_law_number"] [] sp_w_names := by
  obtain ⟨fd, F⟩ := B.says.def_ 20 (d := d_w_names) rfl
  refine ⟨_, fd, _, okD (ns := ns) F sc_w_names (fun rs n Q h => ?len) (fun cdv A outer s H E hr => ⟨_, PSs.nox (pss_cons (ps_set (i := 1) sc_w_names.nd rfl (.inr rfl) pe_str)
      (pss_cons (ps_set (i := 2) sc_w_names.nd rfl (.inr rfl) (pe_bm PySem.F.plainAttrs_str PySem.F.slot_str_join PySem.F.type_str_join mt_joinA pe_str (pa_cons (pe_lc (own := [("_law_j", 11)]) (g := gName 11) (tt := tYes) (te := (tOp (rIxA K w) (tVar 1) (tOp (rI (fun _ j => 0 < j) fun i j => V.int (i % j)) (tCall (spOf ⟨K, ns, w⟩ sp_w_mixed) [] E0 (tCons (tVar 0) (tCons (tVar 11) tNil))) (tC (V.int 26))))) rfl sc_w_names.nd (pi_range1 (by rfl) (B.free 46 _ rfl) (pa_cons pe_int pa_nil)) (blkOk_by (own := [("_law_j", 11)]) (N := nm_w_names) (sc := defScope s_w_names) (by decide +kernel)) (fun _ _ _ _ _ => (pg_name (i := 11) sc_w_names.nd rfl (.inl rfl))) (fun _ _ _ _ _ => pts_nil) (fun _ _ _ _ _ => (pe_ix (ixA hr.units) (pv 1) (pe_op op_mod (pe_fn H_w_mixed (hr.mono (by omega)) (by rfl) (pa_cons (pv 0) (pa_cons (pv 11) pa_nil))) pe_int) (fun _ _ => rfl)))) pa_nil)))
      (pss_cons (ps_if (pt_cmpR op_lt (pe_op op_mod (pv 0) pe_int) pe_int (nomark _)) (pss_cons (ps_set (i := 3) sc_w_names.nd rfl (.inr rfl) (pe_op op_plus pe_int (pe_op op_mod (pe_op op_fdiv (pv 0) pe_int) pe_int)))
      (pss_cons (ps_set (i := 4) sc_w_names.nd rfl (.inr rfl) (pe_op op_mod (pe_op op_fdiv (pv 0) pe_int) (pv 3)))
      (pss_cons (ps_set (i := 5) sc_w_names.nd rfl (.inr rfl) (pe_ifExp (pt_cmpR (op_eqM hr.units) (pv 4) pe_int (nomark _)) (pv 1) (pe_op op_plus (pv 1) pe_str)))
      (pss_cons (ps_setLc (i := 6) (own := [("_law_k", 10)]) (g := gName 10) (tt := tYes) (te := (tOp (rIxA K w) (tVar 5) (tOp (rI (fun _ j => 0 < j) fun i j => V.int (i % j)) (tOp (rPlus K) (tOp (rI CDiv fun i j => V.int (i / j)) (tVar 0) (tC (V.int 256))) (tOp (rTimes K) (tC (V.int 5)) (tVar 10))) (tCB (rLen K) (tCons (tVar 5) tNil))))) rfl sc_w_names.nd rfl rfl (sw_true rfl rfl rfl (by decide +kernel)) (pi_range1 (by rfl) (B.free 46 _ rfl) (pa_cons pe_int pa_nil)) (blkOk_by (own := [("_law_k", 10)]) (N := nm_w_names) (sc := defScope s_w_names) (by decide +kernel)) (fun _ _ _ _ _ => (pg_name (i := 10) sc_w_names.nd rfl (.inl rfl))) (fun _ _ _ _ _ => pts_nil) (fun _ _ _ _ _ => (pe_ix (ixA hr.units) (pv 5) (pe_op op_mod (pe_op op_plus (pe_op op_fdiv (pv 0) pe_int) (pe_op op_times pe_int (pv 10))) (pe_callB call_lenA (by rfl) (B.free 43 _ rfl) PySem.boot_len (pa_cons (pv 5) pa_nil))) (fun _ _ => rfl))))
      (pss_one (ps_ret (pe_lc (own := [("_law_sign", 12)]) (g := gName 12) (tt := tYes) (te := (tOp (rPlus K) (tOp (rPlus K) (tSl (rSlD K) (tVar 2) tNoPart (tPart (tVar 4))) (tVar 12)) (tSl (rSlD K) (tVar 2) (tPart (tOp (rPlus K) (tVar 4) (tC (V.int 1)))) (tPart (tVar 3))))) rfl sc_w_names.nd (pi_list (pv 6)) (blkOk_by (own := [("_law_sign", 12)]) (N := nm_w_names) (sc := defScope s_w_names) (by decide +kernel)) (fun _ _ _ _ _ => (pg_name (i := 12) sc_w_names.nd rfl (.inl rfl))) (fun _ _ _ _ _ => pts_nil) (fun _ _ _ _ _ => (pe_op op_plus (pe_op op_plus (pe_slice slD (pv 2) po_none (po_some (pv 4))) (pv 12)) (pe_slice slD (pv 2) (po_some (pe_op op_plus (pv 4) pe_int)) (po_some (pv 3)))))))))))) pss_nil)
      (pss_cons (ps_if (pt_cmpR (op_eqM hr.units) (pe_op op_mod (pv 0) pe_int) pe_int (nomark _)) (pss_cons (ps_set (i := 7) sc_w_names.nd rfl (.inl rfl) (pe_op op_plus (pe_op op_plus (pe_bm PySem.F.plainAttrs_str PySem.F.slot_str_index PySem.F.type_str_index mt_indexA (pv 1) (pa_cons (pe_ix (ixA hr.units) (pv 2) pe_int (fun _ _ => rfl)) pa_nil)) pe_int) (pe_op op_mod (pe_op op_fdiv (pv 0) pe_int) pe_int)))
      (pss_cons (ps_set (i := 8) sc_w_names.nd rfl (.inr rfl) (pe_op op_plus (pe_ix (ixA hr.units) (pv 1) (pe_op op_mod (pv 7) pe_int) (fun _ _ => rfl)) (pe_slice slD (pv 2) (po_some pe_int) po_none)))
      (pss_cons (ps_setLc (i := 9) (own := [("_law_k", 10)]) (g := gName 10) (tt := tYes) (te := (tSl (rSlD K) (tVar 2) tNoPart (tPart (tOp (rPlus K) (tVar 10) (tC (V.int 1)))))) rfl sc_w_names.nd rfl rfl (sw_true rfl rfl rfl (by decide +kernel)) (pi_range1 (by rfl) (B.free 46 _ rfl) (pa_cons pe_int pa_nil)) (blkOk_by (own := [("_law_k", 10)]) (N := nm_w_names) (sc := defScope s_w_names) (by decide +kernel)) (fun _ _ _ _ _ => (pg_name (i := 10) sc_w_names.nd rfl (.inl rfl))) (fun _ _ _ _ _ => pts_nil) (fun _ _ _ _ _ => (pe_slice slD (pv 2) po_none (po_some (pe_op op_plus (pv 10) pe_int)))))
      (pss_one (ps_ret (pe_op op_plus (pv 9) (pe_lc (own := [("_law_k", 10)]) (g := gName 10) (tt := tYes) (te := (tSl (rSlD K) (tVar 8) tNoPart (tPart (tOp (rPlus K) (tVar 10) (tC (V.int 1)))))) rfl sc_w_names.nd (pi_range1 (by rfl) (B.free 46 _ rfl) (pa_cons pe_int pa_nil)) (blkOk_by (own := [("_law_k", 10)]) (N := nm_w_names) (sc := defScope s_w_names) (by decide +kernel)) (fun _ _ _ _ _ => (pg_name (i := 10) sc_w_names.nd rfl (.inl rfl))) (fun _ _ _ _ _ => pts_nil) (fun _ _ _ _ _ => (pe_slice slD (pv 8) po_none (po_some (pe_op op_plus (pv 10) pe_int))))))))))) pss_nil)
      (pss_one (ps_ret (pe_lc (own := [("_law_k", 10)]) (g := gName 10) (tt := tYes) (te := (tOp (rIxA K w) (tVar 1) (tOp (rI (fun _ j => 0 < j) fun i j => V.int (i % j)) (tOp (rPlus K) (tOp (rI CDiv fun i j => V.int (i / j)) (tVar 0) (tC (V.int 4))) (tOp (rTimes K) (tC (V.int 7)) (tVar 10))) (tC (V.int 26))))) rfl sc_w_names.nd (pi_range1 (by rfl) (B.free 46 _ rfl) (pa_cons pe_int pa_nil)) (blkOk_by (own := [("_law_k", 10)]) (N := nm_w_names) (sc := defScope s_w_names) (by decide +kernel)) (fun _ _ _ _ _ => (pg_name (i := 10) sc_w_names.nd rfl (.inl rfl))) (fun _ _ _ _ _ => pts_nil) (fun _ _ _ _ _ => (pe_ix (ixA hr.units) (pv 1) (pe_op op_mod (pe_op op_plus (pe_op op_fdiv (pv 0) pe_int) (pe_op op_times pe_int (pv 10))) pe_int) (fun _ _ => rfl)))))))))), fun rs n Q h => ?walk⟩), B.glo 20 _ rfl, F.kp, .nil, F.bindsN fun _ _ _ _ _ _ us hl => match us, hl with | [_], _ => rfl⟩
  case len =>
    obtain ⟨_, rfl, _⟩ := h
    rfl
  case walk =>
    obtain ⟨a, rfl, hQ⟩ := h
    show SW _ _ [.d (.int a), .u, .u, .u, .u, .u, .u, .u, .u, .u, .u, .u, .u] n _
    dsimp only [cxOf]
    walk_at "go"
    refine ⟨by decide, by decide, by decide, comp_all 0 (fun _ x => ∃ s, x = .str s ∧ ∃ c, s = ⟨#[c]⟩ ∧ Lw c) n _ _ _ (by omega) (fun d hd n1 h1 h2 => ?_) fun xs n' hp h1 h2 => ?_⟩
    · obtain ⟨j, hj, rfl⟩ := range_nat hd
      walk_at "put1"
      walk_at "go"
      have h8 : (Int.toNat 8) = 8 := rfl
      refine ⟨a, _, rfl, by omega, by omega, fun v hv => ⟨rfl, ?_⟩⟩
      walk_at "go"
      obtain ⟨c, e, hc⟩ := abc_at (i := v % 26) (by omega) (by omega)
      exact ow_ixS (s := abc) (by decide +kernel) e (lo_ok (lo_one (lw_low hc))) ⟨by omega, by omega, _, rfl, _, rfl, c, rfl, hc⟩
    · obtain rfl : n' = n := by omega
      obtain ⟨ss, rfl, hl, hs⟩ := strs_paired hp
      obtain ⟨cs, rfl, hcl, hcs⟩ := ones_of hs
      rw [rangeD_len] at hl
      have hc8 : cs.length = 8 := hcl.trans hl
      walk_at "go"
      refine mw_join (.inl rfl) ?_ ?_ ?_
      · rw [List.map_map, List.length_map, hc8]
        have : (List.map ((fun s : Str => s.length) ∘ fun c => (⟨#[c]⟩ : Str)) cs).sum ≤ 8 := by
          have e : (List.map ((fun s : Str => s.length) ∘ fun c => (⟨#[c]⟩ : Str)) cs) = cs.map fun _ => 1 := rfl
          rw [e, List.map_const', List.sum_replicate_nat, hc8]
          decide
        have e0 : (Str.ofString "").length = 0 := rfl
        rw [e0]
        omega
      · rw [join_txt]
        exact lo_ok fun c hc => lw_low (hcs c hc)
      · rw [join_txt]
        have hbl : (⟨cs.toArray⟩ : Str).length = 8 := by
          show cs.toArray.size = 8
          rw [List.size_toArray]
          exact hc8
        have hbo : Lo ⟨cs.toArray⟩ := fun c hc => lw_low (hcs c hc)
        walk_at "go"
        refine br_2 (fun b1 => ?_) (fun b1 => ?_)
        · walk_at "go"
          refine br_2 (fun _ => ?_) (fun _ => ?_)
          · have hdl : Lo (Str.ofString "abcdefghijklmnopqrstuvwxyz") := fun c hc => lw_low (abc_lw c hc)
            have hdz : (Str.ofString "abcdefghijklmnopqrstuvwxyz").length = 26 := by decide +kernel
            walk_at "go"
            generalize (Str.ofString "abcdefghijklmnopqrstuvwxyz") = sg at hdl hdz
            have sgl : ∀ c ∈ sg.cps.toList, c < 128 := hdl
            refine ⟨by decide, by decide, by decide, comp_all 0 (fun _ x => ∃ s, x = .str s ∧ ∃ c, s = ⟨#[c]⟩ ∧ c < 128) n' _ _ _ (by omega) (fun d hd n1 h1 h2 => ?_) fun xs n2 hp h1 h2 => ?_⟩
            · obtain ⟨j, hj, rfl⟩ := range_nat hd
              have h16 : (Int.toNat 16) = 16 := rfl
              walk_at "put1"
              walk_at "go"
              refine cw_lenS (by omega) ?_
              walk_at "go"
              have g0 := Int.emod_nonneg (a / 256 + 5 * (0 + (j : Nat) * 1)) (show ((sg.length : Nat) : Int) ≠ 0 by omega)
              have g1 := Int.emod_lt_of_pos (a / 256 + 5 * (0 + (j : Nat) * 1)) (show (0 : Int) < ((sg.length : Nat) : Int) by omega)
              rw [TL.len_tl] at g1
              obtain ⟨c, e, hc⟩ := atI_mem g0 g1
              exact ow_ixS (by omega) e (lo_ok (lo_one (sgl c hc))) ⟨by omega, by omega, _, rfl, _, rfl, c, rfl, sgl c hc⟩
            · obtain rfl : n2 = n' := by omega
              obtain ⟨ss, rfl, hl, hs⟩ := strs_paired hp
              rw [rangeD_len] at hl
              walk_at "go"
              refine ⟨by rw [List.nil_append, List.length_map, hl]; decide, comp_all 0 (fun _ x => ∃ s, x = .str s ∧ s.length ≤ 20) n2 _ _ _ (by omega) (fun d hd n1 h1 h2 => ?_) fun xs n3 hp h1 h2 => ?_⟩
              · obtain ⟨s, hs2, rfl⟩ := List.mem_map.1 hd
                obtain ⟨c, rfl, hc⟩ := hs s hs2
                walk_at "put1"
                walk_at "go"
                have l1 := cut_len (⟨cs.toArray⟩ : Str) none (some (a / 32 % (2 + a / 4 % 7)))
                refine lw_S (by omega) (lo_ok (lo_cut hbo _ _)) ?_
                walk_at "go"
                have one : (⟨#[c]⟩ : Str).length = 1 := rfl
                refine ow_addS (by omega) (lo_ok (lo_app (lo_cut hbo _ _) (lo_one hc))) ?_
                walk_at "go"
                have l2 := cut_len (⟨cs.toArray⟩ : Str) (some (a / 32 % (2 + a / 4 % 7) + 1)) (some (2 + a / 4 % 7))
                refine lw_S (by omega) (lo_ok (lo_cut hbo _ _)) ?_
                walk_at "go"
                have l3 := len_app (cutS (⟨cs.toArray⟩ : Str) none (some (a / 32 % (2 + a / 4 % 7)))) ⟨#[c]⟩
                refine ow_addS (by omega) (lo_ok (lo_app (lo_app (lo_cut hbo _ _) (lo_one hc)) (lo_cut hbo _ _))) ⟨by omega, by omega, _, rfl, _, rfl, ?_⟩
                rw [len_app]
                omega
              · obtain rfl : n3 = n2 := by omega
                obtain ⟨ts, rfl, hl2, hs2⟩ := strs_paired hp
                rw [List.nil_append, List.length_map] at hl2
                exact hQ ts (by rw [hl2, hl]; rfl) hs2
          · walk_at "go"
            have hdl : Lo ((Str.ofString "abcdefghijklmnopqrstuvwxyz") ++ (Str.ofString "0123456789")) := by
              unfold Lo
              decide +kernel
            have hdz : ((Str.ofString "abcdefghijklmnopqrstuvwxyz") ++ (Str.ofString "0123456789")).length = 36 := by decide +kernel
            refine ow_addS (by decide +kernel) (lo_ok hdl) ?_
            generalize (Str.ofString "abcdefghijklmnopqrstuvwxyz") ++ (Str.ofString "0123456789") = sg at hdl hdz
            have sgl : ∀ c ∈ sg.cps.toList, c < 128 := hdl
            walk_at "go"
            refine ⟨by decide, by decide, by decide, comp_all 0 (fun _ x => ∃ s, x = .str s ∧ ∃ c, s = ⟨#[c]⟩ ∧ c < 128) n' _ _ _ (by omega) (fun d hd n1 h1 h2 => ?_) fun xs n2 hp h1 h2 => ?_⟩
            · obtain ⟨j, hj, rfl⟩ := range_nat hd
              have h16 : (Int.toNat 16) = 16 := rfl
              walk_at "put1"
              walk_at "go"
              refine cw_lenS (by omega) ?_
              walk_at "go"
              have g0 := Int.emod_nonneg (a / 256 + 5 * (0 + (j : Nat) * 1)) (show ((sg.length : Nat) : Int) ≠ 0 by omega)
              have g1 := Int.emod_lt_of_pos (a / 256 + 5 * (0 + (j : Nat) * 1)) (show (0 : Int) < ((sg.length : Nat) : Int) by omega)
              rw [TL.len_tl] at g1
              obtain ⟨c, e, hc⟩ := atI_mem g0 g1
              exact ow_ixS (by omega) e (lo_ok (lo_one (sgl c hc))) ⟨by omega, by omega, _, rfl, _, rfl, c, rfl, sgl c hc⟩
            · obtain rfl : n2 = n' := by omega
              obtain ⟨ss, rfl, hl, hs⟩ := strs_paired hp
              rw [rangeD_len] at hl
              walk_at "go"
              refine ⟨by rw [List.nil_append, List.length_map, hl]; decide, comp_all 0 (fun _ x => ∃ s, x = .str s ∧ s.length ≤ 20) n2 _ _ _ (by omega) (fun d hd n1 h1 h2 => ?_) fun xs n3 hp h1 h2 => ?_⟩
              · obtain ⟨s, hs2, rfl⟩ := List.mem_map.1 hd
                obtain ⟨c, rfl, hc⟩ := hs s hs2
                walk_at "put1"
                walk_at "go"
                have l1 := cut_len (⟨cs.toArray⟩ : Str) none (some (a / 32 % (2 + a / 4 % 7)))
                refine lw_S (by omega) (lo_ok (lo_cut hbo _ _)) ?_
                walk_at "go"
                have one : (⟨#[c]⟩ : Str).length = 1 := rfl
                refine ow_addS (by omega) (lo_ok (lo_app (lo_cut hbo _ _) (lo_one hc))) ?_
                walk_at "go"
                have l2 := cut_len (⟨cs.toArray⟩ : Str) (some (a / 32 % (2 + a / 4 % 7) + 1)) (some (2 + a / 4 % 7))
                refine lw_S (by omega) (lo_ok (lo_cut hbo _ _)) ?_
                walk_at "go"
                have l3 := len_app (cutS (⟨cs.toArray⟩ : Str) none (some (a / 32 % (2 + a / 4 % 7)))) ⟨#[c]⟩
                refine ow_addS (by omega) (lo_ok (lo_app (lo_app (lo_cut hbo _ _) (lo_one hc)) (lo_cut hbo _ _))) ⟨by omega, by omega, _, rfl, _, rfl, ?_⟩
                rw [len_app]
                omega
              · obtain rfl : n3 = n2 := by omega
                obtain ⟨ts, rfl, hl2, hs2⟩ := strs_paired hp
                rw [List.nil_append, List.length_map] at hl2
                exact hQ ts (by rw [hl2, hl]; rfl) hs2
        · walk_at "go"
          refine br_2 (fun b2 => ?_) (fun b2 => ?_)
          · walk_at "go"
            obtain ⟨c0, e0, m0⟩ := atI_mem (xs := cs) (i := 0) (by omega) (by rw [hc8]; decide)
            have hc0 := hcs c0 m0
            refine ow_ixS (s := ⟨cs.toArray⟩) (by omega) e0 (lo_ok (lo_one (lw_low hc0))) ?_
            walk_at "go"
            obtain ⟨mi, rest, ei⟩ := abc_index hc0
            refine mw_index ei ?_
            walk_at "go"
            obtain ⟨c1, e1, hc1⟩ := abc_at (i := ((mi : Nat) + 1 + a / 4 % 25) % 26) (by omega) (by omega)
            refine ow_ixS (s := abc) (by decide +kernel) e1 (lo_ok (lo_one (lw_low hc1))) ?_
            walk_at "go"
            have l1 := cut_len (⟨cs.toArray⟩ : Str) (some 1) none
            refine lw_S (by omega) (lo_ok (lo_cut hbo _ _)) ?_
            walk_at "go"
            have one : (⟨#[c1]⟩ : Str).length = 1 := rfl
            have hoo := lo_app (lo_one (lw_low hc1)) (lo_cut hbo (some 1) none)
            have l2 := len_app (⟨#[c1]⟩ : Str) (cutS ⟨cs.toArray⟩ (some 1) none)
            refine ow_addS (by omega) (lo_ok hoo) ?_
            generalize (⟨#[c1]⟩ : Str) ++ cutS ⟨cs.toArray⟩ (some 1) none = oth at hoo l2
            walk_at "go"
            refine ⟨by decide, by decide, by decide, comp_all 0 (fun _ x => ∃ s, x = .str s ∧ s.length ≤ 20) n' _ _ _ (by omega) (fun d hd n1 h1 h2 => ?_) fun xs n2 hp h1 h2 => ?_⟩
            · obtain ⟨j, hj, rfl⟩ := range_nat hd
              walk_at "put1"
              walk_at "go"
              have l3 := cut_len (⟨cs.toArray⟩ : Str) none (some (0 + (j : Nat) * 1 + 1))
              exact lw_S (by omega) (lo_ok (lo_cut hbo _ _)) ⟨by omega, by omega, _, rfl, _, rfl, by omega⟩
            · obtain rfl : n2 = n' := by omega
              obtain ⟨ss, rfl, hl, hs⟩ := strs_paired hp
              rw [rangeD_len] at hl
              walk_at "go"
              refine ⟨by decide, by decide, by decide, comp_all 0 (fun _ x => ∃ s, x = .str s ∧ s.length ≤ 20) n2 _ _ _ (by omega) (fun d hd n1 h1 h2 => ?_) fun xs n3 hp h1 h2 => ?_⟩
              · obtain ⟨j, hj, rfl⟩ := range_nat hd
                walk_at "put1"
                walk_at "go"
                have l3 := cut_len oth none (some (0 + (j : Nat) * 1 + 1))
                exact lw_S (by omega) (lo_ok (lo_cut hoo _ _)) ⟨by omega, by omega, _, rfl, _, rfl, by omega⟩
              · obtain rfl : n3 = n2 := by omega
                obtain ⟨ts, rfl, hl2, hs2⟩ := strs_paired hp
                rw [rangeD_len] at hl2
                have h8 : (Int.toNat 8) = 8 := rfl
                refine ow_addL (.inr rfl) (.inl rfl) (by rw [List.nil_append, List.nil_append, List.length_map, List.length_map]; omega) ?_
                rw [List.nil_append, List.nil_append, ← List.map_append]
                refine hQ _ (by rw [List.length_append]; omega) fun s hs3 => ?_
                rcases List.mem_append.1 hs3 with hs3 | hs3
                · exact hs s hs3
                · exact hs2 s hs3
          · walk_at "go"
            refine ⟨by decide, by decide, by decide, comp_all 0 (fun _ x => ∃ s, x = .str s ∧ s.length ≤ 20) n' _ _ _ (by omega) (fun d hd n1 h1 h2 => ?_) fun xs n2 hp h1 h2 => ?_⟩
            · obtain ⟨j, hj, rfl⟩ := range_nat hd
              walk_at "put1"
              walk_at "go"
              obtain ⟨c, e, hc⟩ := abc_at (i := (a / 4 + 7 * (0 + (j : Nat) * 1)) % 26) (by omega) (by omega)
              exact ow_ixS (s := abc) (by decide +kernel) e (lo_ok (lo_one (lw_low hc))) ⟨by omega, by omega, _, rfl, _, rfl, by show 1 ≤ 20; decide⟩
            · obtain rfl : n2 = n' := by omega
              obtain ⟨ts, rfl, hl2, hs2⟩ := strs_paired hp
              exact hQ ts hl2 hs2
end
end Dd
set_option Elab.async false
set_option linter.all false
set_option maxRecDepth 100000
set_option autoImplicit false
set_option maxHeartbeats 1000000
/-! Pj: literals, conditions, deeds. -/
namespace Dd
open PySem PySem.Spec PyProof.Rows L2 Dl
local macro_rules | `(tactic| walk_at "dx.var") => `(tactic| ((with_reducible show EW _ (tVar _) _ _ _); first
  | (refine ew_varD rfl ?_) | (refine ew_varR rfl ?_) | (refine ew_varL rfl ?_) | (refine ew_varW rfl ?_) | (refine ew_varS rfl ?_) | (refine ew_varT rfl ?_)))
local macro_rules | `(tactic| walk_at "dx.ew") => `(tactic| first
  | (walk_at "dx.var")
  | (with_reducible refine ew_int ?_) | ((with_reducible refine ew_str ?hh ?_); (case hh => decide +kernel)) | (with_reducible refine ew_bl ?_) | (with_reducible refine ew_non ?_)
  | ((with_reducible show EW _ (tOp (rIxA _ _) (tVar _) (tC (.int 0))) _ _ _); refine ew_w0 rfl ?_) | ((with_reducible show EW _ (tOp (rIxA _ _) (tVar _) (tC (.int 1))) _ _ _); refine ew_w1 rfl ?_)
  | (with_reducible refine ew_op ?_) | (with_reducible refine ew_un ?_) | (with_reducible refine ew_tupE ?_) | (with_reducible refine ew_lstE ?_) | (with_reducible refine ew_isi ?_) | (with_reducible refine ew_cb ?_)
  | (with_reducible refine ew_andV ?_) | (with_reducible refine ew_orV ?_) | (with_reducible refine ew_notV ?_) | ((with_reducible refine ew_callWv ?hw ?_); (case hw => exact rfl)) | (with_reducible refine ew_call ?_) | (with_reducible refine ew_callD ?_) | ((with_reducible refine ew_lc1 ?hq ?_); (case hq => exact rfl)) | ((with_reducible refine ew_lc2 ?hq ?hq2 ?_); (case hq => exact rfl); (case hq2 => exact rfl)) | (with_reducible refine ew_if ?_) | (with_reducible refine ew_chain ?_) | (with_reducible refine ew_sl ?_) | (with_reducible refine ew_bmS ?_) | (with_reducible refine ew_back ?_))
local macro_rules | `(tactic| walk_at "dx.ow") => `(tactic| first
  | (with_reducible refine ow_addI ?_) | (with_reducible refine ow_eqI ?_) | (with_reducible refine ow_eqS ?_) | (with_reducible refine ow_neI ?_) | (with_reducible refine ow_neS ?_) | (with_reducible refine ow_neN (.inr rfl) (.inl rfl) ?_) | (with_reducible refine ow_eqN (.inr rfl) (.inl rfl) ?_) | ((with_reducible refine ow_inT ?hmm ?_); (case hmm => exact Nat.le_of_ble_eq_true rfl)) | (with_reducible refine ow_isN ?_) | (with_reducible refine ow_noN ?_)
  | (with_reducible refine ow_intB ?_) | (with_reducible refine ow_int ?_) | ((with_reducible refine ow_intC ?hc ?_); (case hc => first | decide | omega | exact ⟨by decide, by decide⟩ | exact ⟨by omega, by omega⟩ | exact ⟨by decide, by decide, by decide⟩ | exact ⟨by omega, by omega, by decide⟩))
  | ((with_reducible refine ow_mulI ?hcm ?_); (case hcm => first | exact Or.inl ⟨by decide, by decide⟩ | exact Or.inr ⟨by decide, by decide⟩ | exact Or.inl ⟨by omega, by omega⟩ | exact Or.inr ⟨by omega, by omega⟩))
  | ((with_reducible show OW _ (rIxA _ _) (Rs.d _) (Rs.d _) _); refine ow_ixT rfl ?_))
local macro_rules | `(tactic| walk_at "dx.sw") => `(tactic| first
  | (walk_at "dx.for") | (with_reducible refine sw_seq ?_) | (with_reducible refine sw_next ?_) | ((with_reducible show SW _ (tDrop (tCall _ _ _ _)) _ _ _); refine sw_expr ?_) | (with_reducible refine sw_cont ?_) | (with_reducible refine sw_ret ?_) | (with_reducible refine sw_retN ?_) | (with_reducible refine sw_if ?_)
  | ((with_reducible show SW _ (tAsg (tBM0 _ _ rPop (tVar _)) _) _ _ _); refine sw_pop2 (Nat.le_of_ble_eq_true rfl) (Nat.le_of_ble_eq_true rfl) rfl ?_; dsimp only [List.set])
  | ((with_reducible show SW _ (tDrop (tBM _ _ rExtend _ _)) _ _ _); refine sw_extend rfl ?_) | ((with_reducible show SW _ (tDrop (tBM0 _ _ rReverse _)) _ _ _); refine sw_reverse rfl ?_)
  | ((with_reducible show SW _ (tAsg _ (gSub (tVar _) _ _)) _ _ _); first | (refine sw_draw rfl ?_) | (refine sw_store rfl ?_))
  | ((with_reducible refine sw_set ?hi ?_); (case hi => exact Nat.le_of_ble_eq_true rfl))
  | ((with_reducible refine sw_par ?hi ?hj ?_); (case hi => exact Nat.le_of_ble_eq_true rfl); (case hj => exact Nat.le_of_ble_eq_true rfl); dsimp only [List.set])
  | ((with_reducible refine sw_asg2 ?hi ?hj ?_); (case hi => exact Nat.le_of_ble_eq_true rfl); (case hj => exact Nat.le_of_ble_eq_true rfl); dsimp only [List.set])
  | ((with_reducible refine sw_asg3 ?hi ?hj ?hk ?_); (case hi => exact Nat.le_of_ble_eq_true rfl); (case hj => exact Nat.le_of_ble_eq_true rfl); (case hk => exact Nat.le_of_ble_eq_true rfl); dsimp only [List.set])
  | ((with_reducible refine sw_aug (a := ?aa) ?hi ?_); (case hi => exact rfl); dsimp only [List.set]))
local macro_rules | `(tactic| walk_at "dx.for") => `(tactic| first
  | (with_reducible refine sw_for1 ?_) | (with_reducible refine sw_for2 ?_))
local macro_rules | `(tactic| walk_at "dx.misc") => `(tactic| first
  | (with_reducible refine ea_cons ?_) | (with_reducible refine ea_nil ?_)
  | (with_reducible refine tw_test ?_) | (with_reducible refine tw_B ?_) | (with_reducible refine tw_and ?_) | (with_reducible refine tw_or ?_) | (with_reducible refine tw_not ?_) | (with_reducible refine tw_yes ?_)
  | (with_reducible refine wi_tup ?_) | (with_reducible refine wi_enumT ?_) | (with_reducible refine wi_zipT ?_) | (with_reducible refine wi_rev ?_) | (with_reducible refine wi_range ?_) | (refine wi_enum rfl ?_) | (refine wi_var rfl ?_) | ((with_reducible show WI _ (iList _ (tCall _ _ _ _)) _ _ _); refine wi_new ?_) | (with_reducible refine uw_int ?_) | (with_reducible refine op_no ?_) | (with_reducible refine op_int ?_)
  | ((with_reducible show Br (decide ((_ : Int) < _)) _ _); first | (refine br_t rfl ?_) | (refine br_f rfl ?_)) | ((with_reducible show Br (decide ((_ : Int) ≤ _)) _ _); first | (refine br_t rfl ?_) | (refine br_f rfl ?_)) | ((with_reducible show Br (decide ((_ : Int) = _)) _ _); first | (refine br_t rfl ?_) | (refine br_f rfl ?_)) | ((with_reducible show Br (!decide ((_ : Int) = _)) _ _); first | (refine br_t rfl ?_) | (refine br_f rfl ?_))
  | ((with_reducible show Br (isNone _) _ _); first | (refine br_t rfl ?_) | (refine br_f rfl ?_)) | ((with_reducible show Br (!isNone _) _ _); first | (refine br_t rfl ?_) | (refine br_f rfl ?_))
  | ((with_reducible show Br true _ _); refine br_t rfl ?_) | ((with_reducible show Br false _ _); refine br_f rfl ?_) | (refine br_t (by decide +kernel) ?_) | (refine br_f (by decide +kernel) ?_)
  | (with_reducible refine cw_lenT ?_) | (with_reducible refine cw_listT ?_) | (with_reducible refine cw_tupL (.inr rfl) ?_) | (with_reducible refine cw_tupL (.inl rfl) ?_) | (with_reducible refine cw_lenL (.inr rfl) ?_) | (with_reducible refine cw_lenL (.inl rfl) ?_) | (with_reducible refine cw_lenW ?_)
  | (refine ⟨_, _, rfl, kit_ii, ?_⟩) | (refine ⟨_, _, rfl, kit_ib, ?_⟩) | (refine ⟨_, _, rfl, kit_tt, ?_⟩) | (refine ⟨_, _, rfl, kit_ss, ?_⟩)
  | (with_reducible refine ⟨_, rfl, ?_⟩) | (refine ⟨_, rfl, Nat.le_of_ble_eq_true rfl, ?_⟩) | (with_reducible refine ⟨_, _, rfl, ?_⟩) | (with_reducible refine ⟨_, _, _, rfl, ?_⟩) | ((with_reducible refine ⟨(fun _ z => nomatch z), ?_⟩); dsimp only [List.set]) | (refine ⟨_, _, rfl, by decide +kernel, ?_⟩) | (refine ⟨Nat.le_of_ble_eq_true rfl, ?_⟩) | (with_reducible refine ⟨rfl, ?_⟩) | dsimp only)
local macro_rules | `(tactic| walk_at "dx") => `(tactic| first
  | ((with_reducible refine ew_demoteL (xs := ?xs) ?hdm ?_); (case hdm => exact rfl); dsimp only [List.set]) | ((with_reducible refine sw_demoteF (xs := ?xs) ?hdm ?_); (case hdm => exact rfl); dsimp only [List.set]) | ((with_reducible refine sw_demoteE (xs := ?xs) ?hdm ?_); (case hdm => exact rfl); dsimp only [List.set])
  | ((with_reducible show EW _ _ _ _ _); walk_at "dx.ew") | ((with_reducible show SW _ _ _ _ _); walk_at "dx.sw") | ((with_reducible show OW _ _ _ _ _); walk_at "dx.ow") | (walk_at "dx.misc"))
local macro_rules | `(tactic| walk_at "go") => `(tactic| repeat walk_at "dx")
local macro_rules | `(tactic| walk_at "put1") => `(tactic| (refine ⟨Nat.le_of_ble_eq_true rfl, _, rfl, ?_⟩; dsimp only [wipeG, List.map, List.set]))
local macro_rules | `(tactic| walk_at "put2") => `(tactic| (refine ⟨⟨Nat.le_of_ble_eq_true rfl, Nat.le_of_ble_eq_true rfl⟩, _, rfl, ?_⟩; dsimp only [wipeG, List.map, List.set]))
def Cond.sm : Cond → Prop
  | .fact k => k ≤ 1000
  | .least k z => k ≤ 1000 ∧ -100000000000 ≤ z ∧ z ≤ 100000000000
  | .nt c => sm c
  | .an a b => sm a ∧ sm b
  | .orr a b => sm a ∧ sm b
  | _ => True
def CntOk (c : Cnt) : Prop := -10000000 ≤ c.lo ∧ c.lo ≤ c.hi ∧ c.hi ≤ 1000000000
theorem cnt_ok {cs : List Cnt} (h : ∀ c ∈ cs, CntOk c) {i : Nat} (hi : i < cs.length) : CntOk (cnt cs i) := h _ (List.mem_of_getElem? (cnt_at hi))
def sp_w_literal : DSpec := fun rs n Q => ∃ (F : Nat) (cs : List Cnt) (st : PyData), rs = [.w, .d (.int (F : Nat)), .r (cs.map Cnt.enc), .d st] ∧ 1 ≤ F ∧ F ≤ 12 ∧ cs.length ≤ 3 ∧ (∀ c ∈ cs, CntOk c) ∧ (st = .none ∨ ∃ s : Sta, st = s.enc ∧ s.am.length = cs.length) ∧ 0 ≤ n ∧ n ≤ 90000 ∧
  ∀ c : Cond, c.ok cs.length → c.dep ≤ 2 → c.sm → Q (.d c.enc) (n + 1)
section
variable {P : Program} {w : World} {K : PySem.W.Frag} {mg : Str → Option Value} {base : Heap} {ns : List Int} {k m : Nat}
def nm_w_literal : List Str := ["_law_draw", "_law_facts", "_law_counts", "_law_state", "_law_number", "_law_k", "_law_low", "_law_high", "_law_least", "_law_fact", "_law_is_turned"]
theorem sc_w_literal : FnScope nm_w_literal ["_law_draw", "_law_facts", "_law_counts", "_law_state"] (defScope s_w_literal) := ⟨rfl, rfl, rfl, by decide +kernel, rfl, by decide +kernel, by decide +kernel⟩
/- slots of w_literal: 0 _law_draw, 1 _law_facts, 2 _law_counts, 3 _law_state, 4 _law_number, 5 _law_k, 6 _law_low, 7 _law_high, 8 _law_least, 9 _law_fact, 10 _law_is_turned -/
theorem ok_w_literal (B : Bs K mg) (H_w_holds : Fn P w K mg base ns "_law_holds" 8 ["_law_condition_here", "_law_state"] [] (sp_holds 8)) (H_w_next : Fn P w K mg base ns "_law_next" 2 ["_law_draw"] [] sp_w_next) : Fn P w K mg base ns "_law_literal" (8 + 1) ["_law_draw", "_law_facts", "_law_counts", "_law_state"] [] sp_w_literal := by
  obtain ⟨fd, F⟩ := B.says.def_ 23 (d := d_w_literal) rfl
  refine ⟨_, fd, _, okD (ns := ns) F sc_w_literal (fun rs n Q h => ?len) (fun cdv A outer s H E hr => ⟨_, PSs.nox (pss_cons (ps_set (i := 4) sc_w_literal.nd rfl (.inl rfl) (pe_fn H_w_next (hr.mono (by omega)) (by rfl) (pa_cons (pv 0) pa_nil)))
      (pss_cons (ps_if (PW.pt (pw_and (pt_cmpR (op_neM hr.units) (pv 2) (pe_lst pa_nil) (nomark _)) (pw_and1 (pt_cmpR (op_eqM hr.units) (pe_op op_mod (pv 4) pe_int) pe_int (nomark _))))) (pss_cons (ps_set (i := 5) sc_w_literal.nd rfl (.inl rfl) (pe_op op_mod (pe_op op_fdiv (pv 4) pe_int) (pe_callB call_lenA (by rfl) (B.free 43 _ rfl) PySem.boot_len (pa_cons (pv 2) pa_nil))))
      (pss_cons (ps_par rfl sc_w_literal.nd (i := 6) (j := 7) rfl rfl (by decide) rfl rfl (pa_cons (pe_ix (ixA hr.units) (pe_ix (ixA hr.units) (pv 2) (pv 5) (fun _ _ => rfl)) pe_int (fun _ _ => rfl)) (pa_cons (pe_ix (ixA hr.units) (pe_ix (ixA hr.units) (pv 2) (pv 5) (fun _ _ => rfl)) pe_int (fun _ _ => rfl)) pa_nil)) (by rfl))
      (pss_cons (ps_set (i := 8) sc_w_literal.nd rfl (.inl rfl) (pe_tup (pa_cons pe_str (pa_cons (pv 5) (pa_cons (pe_op op_plus (pv 6) (pe_op op_mod (pe_op op_fdiv (pv 4) pe_int) (pe_op op_plus (pe_op op_sub (pv 7) (pv 6)) pe_int))) pa_nil)))))
      (pss_cons (ps_if (PW.pt (pw_or (pt_cmpR op_none (pv 3) pe_non (nomark _)) (pw_or1 (pt_val (pe_fn H_w_holds (hr.mono (by omega)) (by rfl) (pa_cons (pv 8) (pa_cons (pv 3) pa_nil))))))) (pss_one (ps_ret (pv 8))) pss_nil)
      (pss_one (ps_ret (pe_tup (pa_cons pe_str (pa_cons (pv 8) pa_nil))))))))) pss_nil)
      (pss_cons (ps_set (i := 9) sc_w_literal.nd rfl (.inl rfl) (pe_tup (pa_cons pe_str (pa_cons (pe_op op_mod (pe_op op_fdiv (pv 4) pe_int) (pv 1)) pa_nil))))
      (pss_cons (ps_set (i := 10) sc_w_literal.nd rfl (.inl rfl) (pe_ifExp (pt_cmpR op_none (pv 3) pe_non (nomark _)) (pe_cmpR (op_eqM hr.units) (pe_op op_mod (pe_op op_fdiv (pv 4) pe_int) pe_int) pe_int (nomark _)) (pe_not (pe_fn H_w_holds (hr.mono (by omega)) (by rfl) (pa_cons (pv 9) (pa_cons (pv 3) pa_nil))))))
      (pss_one (ps_ret (pe_ifExp (pt_val (pv 10)) (pe_tup (pa_cons pe_str (pa_cons (pv 9) pa_nil))) (pv 9)))))))), fun rs n Q h => ?walk⟩), B.glo 23 _ rfl, F.kp, .nil, F.bindsN fun _ _ _ _ _ _ us hl => match us, hl with | [_, _, _, _], _ => rfl⟩
  case len =>
    obtain ⟨_, _, _, rfl, _⟩ := h
    rfl
  case walk =>
    obtain ⟨F, cs, st, rfl, hF1, hF2, hcl, hcs, hst, h0, h1, hQ⟩ := h
    rcases hst with rfl | ⟨s, rfl, hs⟩
    · show SW _ _ [.w, .d (.int (F : Nat)), .r (cs.map Cnt.enc), .d .none, .u, .u, .u, .u, .u, .u, .u] n _
      dsimp only [cxOf]
      walk_at "go"
      refine ⟨rfl, h0, by omega, fun v hv => ⟨rfl, ?_⟩⟩
      obtain ⟨hv0, hv1⟩ := hv
      obtain ⟨j, ej, hj⟩ : ∃ j : Nat, v / 4 % (F : Nat) = (j : Nat) ∧ j < F := ⟨(v / 4 % (F : Nat)).toNat, by have := Int.emod_nonneg (v / 4) (show ((F : Nat) : Int) ≠ 0 by omega); omega, by have := Int.emod_lt_of_pos (v / 4) (show (0 : Int) < (F : Nat) by omega); have := Int.emod_nonneg (v / 4) (show ((F : Nat) : Int) ≠ 0 by omega); omega⟩
      walk_at "go"
      refine br_2 (fun b1 => ?_) (fun b1 => ?_)
      · have hne : 0 < cs.length := by
          cases cs with
          | nil => cases b1
          | cons _ _ => exact Nat.succ_pos _
        walk_at "go"
        refine br_2 (fun b2 => ?_) (fun b2 => ?_)
        · have hne2 : 0 < (cs.map Cnt.enc).length := by rw [List.length_map]; exact hne
          walk_at "go"
          rw [List.length_map]
          obtain ⟨kk, ek, hk⟩ : ∃ kk : Nat, v / 4 % (cs.length : Nat) = (kk : Nat) ∧ kk < cs.length := ⟨(v / 4 % (cs.length : Nat)).toNat, by have := Int.emod_nonneg (v / 4) (show ((cs.length : Nat) : Int) ≠ 0 by omega); omega, by have := Int.emod_lt_of_pos (v / 4) (show (0 : Int) < (cs.length : Nat) by omega); have := Int.emod_nonneg (v / 4) (show ((cs.length : Nat) : Int) ≠ 0 by omega); omega⟩
          rw [ek]
          obtain ⟨ck0, ck1, ck2⟩ := cnt_ok hcs hk
          refine ow_ixL (.inr rfl) (cnt_atD hk) ?_
          walk_at "go"
          refine ow_ixL (.inr rfl) (cnt_atD hk) ?_
          walk_at "go"
          have z0 := Int.emod_nonneg (v / 16) (show (cnt cs kk).hi - (cnt cs kk).lo + 2 ≠ 0 by omega)
          have z1 := Int.emod_lt_of_pos (v / 16) (show 0 < (cnt cs kk).hi - (cnt cs kk).lo + 2 by omega)
          exact hQ (.least kk _) hk (by show 1 ≤ 2; decide) ⟨by omega, by omega, by omega⟩
        · walk_at "go"
          rw [ej]
          refine br_2 (fun b3 => ?_) (fun b3 => ?_)
          · walk_at "go"
            exact hQ (.nt (.fact j)) trivial (by show 2 ≤ 2; decide) (by show j ≤ 1000; omega)
          · walk_at "go"
            exact hQ (.fact j) trivial (by show 1 ≤ 2; decide) (by show j ≤ 1000; omega)
      · walk_at "go"
        rw [ej]
        refine br_2 (fun b3 => ?_) (fun b3 => ?_)
        · walk_at "go"
          exact hQ (.nt (.fact j)) trivial (by show 2 ≤ 2; decide) (by show j ≤ 1000; omega)
        · walk_at "go"
          exact hQ (.fact j) trivial (by show 1 ≤ 2; decide) (by show j ≤ 1000; omega)
    · show SW _ _ [.w, .d (.int (F : Nat)), .r (cs.map Cnt.enc), .d s.enc, .u, .u, .u, .u, .u, .u, .u] n _
      dsimp only [cxOf]
      walk_at "go"
      refine ⟨rfl, h0, by omega, fun v hv => ⟨rfl, ?_⟩⟩
      obtain ⟨hv0, hv1⟩ := hv
      obtain ⟨j, ej, hj⟩ : ∃ j : Nat, v / 4 % (F : Nat) = (j : Nat) ∧ j < F := ⟨(v / 4 % (F : Nat)).toNat, by have := Int.emod_nonneg (v / 4) (show ((F : Nat) : Int) ≠ 0 by omega); omega, by have := Int.emod_lt_of_pos (v / 4) (show (0 : Int) < (F : Nat) by omega); have := Int.emod_nonneg (v / 4) (show ((F : Nat) : Int) ≠ 0 by omega); omega⟩
      walk_at "go"
      refine br_2 (fun b1 => ?_) (fun b1 => ?_)
      · have hne : 0 < cs.length := by
          cases cs with
          | nil => cases b1
          | cons _ _ => exact Nat.succ_pos _
        walk_at "go"
        refine br_2 (fun b2 => ?_) (fun b2 => ?_)
        · have hne2 : 0 < (cs.map Cnt.enc).length := by rw [List.length_map]; exact hne
          walk_at "go"
          rw [List.length_map]
          obtain ⟨kk, ek, hk⟩ : ∃ kk : Nat, v / 4 % (cs.length : Nat) = (kk : Nat) ∧ kk < cs.length := ⟨(v / 4 % (cs.length : Nat)).toNat, by have := Int.emod_nonneg (v / 4) (show ((cs.length : Nat) : Int) ≠ 0 by omega); omega, by have := Int.emod_lt_of_pos (v / 4) (show (0 : Int) < (cs.length : Nat) by omega); have := Int.emod_nonneg (v / 4) (show ((cs.length : Nat) : Int) ≠ 0 by omega); omega⟩
          rw [ek]
          obtain ⟨ck0, ck1, ck2⟩ := cnt_ok hcs hk
          refine ow_ixL (.inr rfl) (cnt_atD hk) ?_
          walk_at "go"
          refine ow_ixL (.inr rfl) (cnt_atD hk) ?_
          walk_at "go"
          have z0 := Int.emod_nonneg (v / 16) (show (cnt cs kk).hi - (cnt cs kk).lo + 2 ≠ 0 by omega)
          have z1 := Int.emod_lt_of_pos (v / 16) (show 0 < (cnt cs kk).hi - (cnt cs kk).lo + 2 by omega)
          refine ⟨.least kk ((cnt cs kk).lo + v / 16 % ((cnt cs kk).hi - (cnt cs kk).lo + 2)), s, rfl, by show 1 ≤ 8; decide, by show kk < s.am.length; rw [hs]; exact hk, rfl, ?_⟩
          walk_at "go"
          refine br_2 (fun b3 => ?_) (fun b3 => ?_)
          · walk_at "go"
            exact hQ (.least kk _) hk (by show 1 ≤ 2; decide) ⟨by omega, by omega, by omega⟩
          · walk_at "go"
            exact hQ (.nt (.least kk _)) hk (by show 2 ≤ 2; decide) ⟨by omega, by omega, by omega⟩
        · walk_at "go"
          rw [ej]
          refine ⟨.fact j, s, rfl, by show 1 ≤ 8; decide, trivial, rfl, ?_⟩
          walk_at "go"
          refine br_2 (fun b3 => ?_) (fun b3 => ?_)
          · walk_at "go"
            exact hQ (.nt (.fact j)) trivial (by show 2 ≤ 2; decide) (by show j ≤ 1000; omega)
          · walk_at "go"
            exact hQ (.fact j) trivial (by show 1 ≤ 2; decide) (by show j ≤ 1000; omega)
      · walk_at "go"
        rw [ej]
        refine ⟨.fact j, s, rfl, by show 1 ≤ 8; decide, trivial, rfl, ?_⟩
        walk_at "go"
        refine br_2 (fun b3 => ?_) (fun b3 => ?_)
        · walk_at "go"
          exact hQ (.nt (.fact j)) trivial (by show 2 ≤ 2; decide) (by show j ≤ 1000; omega)
        · walk_at "go"
          exact hQ (.fact j) trivial (by show 1 ≤ 2; decide) (by show j ≤ 1000; omega)
end
end Dd
set_option Elab.async false
set_option linter.all false
set_option maxRecDepth 100000
set_option autoImplicit false
set_option maxHeartbeats 1000000
/-! Pk: conditions, deeds. -/
namespace Dd
open PySem PySem.Spec PyProof.Rows L2 Dl
local macro_rules | `(tactic| walk_at "dx.var") => `(tactic| ((with_reducible show EW _ (tVar _) _ _ _); first
  | (refine ew_varD rfl ?_) | (refine ew_varR rfl ?_) | (refine ew_varL rfl ?_) | (refine ew_varW rfl ?_) | (refine ew_varS rfl ?_) | (refine ew_varT rfl ?_)))
local macro_rules | `(tactic| walk_at "dx.ew") => `(tactic| first
  | (walk_at "dx.var")
  | (with_reducible refine ew_int ?_) | ((with_reducible refine ew_str ?hh ?_); (case hh => decide +kernel)) | (with_reducible refine ew_bl ?_) | (with_reducible refine ew_non ?_)
  | ((with_reducible show EW _ (tOp (rIxA _ _) (tVar _) (tC (.int 0))) _ _ _); refine ew_w0 rfl ?_) | ((with_reducible show EW _ (tOp (rIxA _ _) (tVar _) (tC (.int 1))) _ _ _); refine ew_w1 rfl ?_)
  | (with_reducible refine ew_op ?_) | (with_reducible refine ew_un ?_) | (with_reducible refine ew_tupE ?_) | (with_reducible refine ew_lstE ?_) | (with_reducible refine ew_isi ?_) | (with_reducible refine ew_cb ?_)
  | (with_reducible refine ew_andV ?_) | (with_reducible refine ew_orV ?_) | (with_reducible refine ew_notV ?_) | ((with_reducible refine ew_callWv ?hw ?_); (case hw => exact rfl)) | (with_reducible refine ew_call ?_) | (with_reducible refine ew_callD ?_) | ((with_reducible refine ew_lc1 ?hq ?_); (case hq => exact rfl)) | ((with_reducible refine ew_lc2 ?hq ?hq2 ?_); (case hq => exact rfl); (case hq2 => exact rfl)) | (with_reducible refine ew_if ?_) | (with_reducible refine ew_chain ?_) | (with_reducible refine ew_sl ?_) | (with_reducible refine ew_bmS ?_) | (with_reducible refine ew_back ?_))
local macro_rules | `(tactic| walk_at "dx.ow") => `(tactic| first
  | (with_reducible refine ow_addI ?_) | (with_reducible refine ow_eqI ?_) | (with_reducible refine ow_eqS ?_) | (with_reducible refine ow_neI ?_) | (with_reducible refine ow_neS ?_) | (with_reducible refine ow_neN (.inr rfl) (.inl rfl) ?_) | (with_reducible refine ow_eqN (.inr rfl) (.inl rfl) ?_) | ((with_reducible refine ow_inT ?hmm ?_); (case hmm => exact Nat.le_of_ble_eq_true rfl)) | (with_reducible refine ow_isN ?_) | (with_reducible refine ow_noN ?_)
  | (with_reducible refine ow_intB ?_) | (with_reducible refine ow_int ?_) | ((with_reducible refine ow_intC ?hc ?_); (case hc => first | decide | omega | exact ⟨by decide, by decide⟩ | exact ⟨by omega, by omega⟩ | exact ⟨by decide, by decide, by decide⟩ | exact ⟨by omega, by omega, by decide⟩))
  | ((with_reducible refine ow_mulI ?hcm ?_); (case hcm => first | exact Or.inl ⟨by decide, by decide⟩ | exact Or.inr ⟨by decide, by decide⟩ | exact Or.inl ⟨by omega, by omega⟩ | exact Or.inr ⟨by omega, by omega⟩))
  | ((with_reducible show OW _ (rIxA _ _) (Rs.d _) (Rs.d _) _); refine ow_ixT rfl ?_))
local macro_rules | `(tactic| walk_at "dx.sw") => `(tactic| first
  | (walk_at "dx.for") | (with_reducible refine sw_seq ?_) | (with_reducible refine sw_next ?_) | ((with_reducible show SW _ (tDrop (tCall _ _ _ _)) _ _ _); refine sw_expr ?_) | (with_reducible refine sw_cont ?_) | (with_reducible refine sw_ret ?_) | (with_reducible refine sw_retN ?_) | (with_reducible refine sw_if ?_)
  | ((with_reducible show SW _ (tAsg (tBM0 _ _ rPop (tVar _)) _) _ _ _); refine sw_pop2 (Nat.le_of_ble_eq_true rfl) (Nat.le_of_ble_eq_true rfl) rfl ?_; dsimp only [List.set])
  | ((with_reducible show SW _ (tDrop (tBM _ _ rExtend _ _)) _ _ _); refine sw_extend rfl ?_) | ((with_reducible show SW _ (tDrop (tBM0 _ _ rReverse _)) _ _ _); refine sw_reverse rfl ?_)
  | ((with_reducible show SW _ (tAsg _ (gSub (tVar _) _ _)) _ _ _); first | (refine sw_draw rfl ?_) | (refine sw_store rfl ?_))
  | ((with_reducible refine sw_set ?hi ?_); (case hi => exact Nat.le_of_ble_eq_true rfl))
  | ((with_reducible refine sw_par ?hi ?hj ?_); (case hi => exact Nat.le_of_ble_eq_true rfl); (case hj => exact Nat.le_of_ble_eq_true rfl); dsimp only [List.set])
  | ((with_reducible refine sw_asg2 ?hi ?hj ?_); (case hi => exact Nat.le_of_ble_eq_true rfl); (case hj => exact Nat.le_of_ble_eq_true rfl); dsimp only [List.set])
  | ((with_reducible refine sw_asg3 ?hi ?hj ?hk ?_); (case hi => exact Nat.le_of_ble_eq_true rfl); (case hj => exact Nat.le_of_ble_eq_true rfl); (case hk => exact Nat.le_of_ble_eq_true rfl); dsimp only [List.set])
  | ((with_reducible refine sw_aug (a := ?aa) ?hi ?_); (case hi => exact rfl); dsimp only [List.set]))
local macro_rules | `(tactic| walk_at "dx.for") => `(tactic| first
  | (with_reducible refine sw_for1 ?_) | (with_reducible refine sw_for2 ?_))
local macro_rules | `(tactic| walk_at "dx.misc") => `(tactic| first
  | (with_reducible refine ea_cons ?_) | (with_reducible refine ea_nil ?_)
  | (with_reducible refine tw_test ?_) | (with_reducible refine tw_B ?_) | (with_reducible refine tw_and ?_) | (with_reducible refine tw_or ?_) | (with_reducible refine tw_not ?_) | (with_reducible refine tw_yes ?_)
  | (with_reducible refine wi_tup ?_) | (with_reducible refine wi_enumT ?_) | (with_reducible refine wi_zipT ?_) | (with_reducible refine wi_rev ?_) | (with_reducible refine wi_range ?_) | (refine wi_enum rfl ?_) | (refine wi_var rfl ?_) | ((with_reducible show WI _ (iList _ (tCall _ _ _ _)) _ _ _); refine wi_new ?_) | (with_reducible refine uw_int ?_) | (with_reducible refine op_no ?_) | (with_reducible refine op_int ?_)
  | ((with_reducible show Br (decide ((_ : Int) < _)) _ _); first | (refine br_t rfl ?_) | (refine br_f rfl ?_)) | ((with_reducible show Br (decide ((_ : Int) ≤ _)) _ _); first | (refine br_t rfl ?_) | (refine br_f rfl ?_)) | ((with_reducible show Br (decide ((_ : Int) = _)) _ _); first | (refine br_t rfl ?_) | (refine br_f rfl ?_)) | ((with_reducible show Br (!decide ((_ : Int) = _)) _ _); first | (refine br_t rfl ?_) | (refine br_f rfl ?_))
  | ((with_reducible show Br (isNone _) _ _); first | (refine br_t rfl ?_) | (refine br_f rfl ?_)) | ((with_reducible show Br (!isNone _) _ _); first | (refine br_t rfl ?_) | (refine br_f rfl ?_))
  | ((with_reducible show Br true _ _); refine br_t rfl ?_) | ((with_reducible show Br false _ _); refine br_f rfl ?_) | (refine br_t (by decide +kernel) ?_) | (refine br_f (by decide +kernel) ?_)
  | (with_reducible refine cw_lenT ?_) | (with_reducible refine cw_listT ?_) | (with_reducible refine cw_tupL (.inr rfl) ?_) | (with_reducible refine cw_tupL (.inl rfl) ?_) | (with_reducible refine cw_lenL (.inr rfl) ?_) | (with_reducible refine cw_lenL (.inl rfl) ?_) | (with_reducible refine cw_lenW ?_)
  | (refine ⟨_, _, rfl, kit_ii, ?_⟩) | (refine ⟨_, _, rfl, kit_ib, ?_⟩) | (refine ⟨_, _, rfl, kit_tt, ?_⟩) | (refine ⟨_, _, rfl, kit_ss, ?_⟩)
  | (with_reducible refine ⟨_, rfl, ?_⟩) | (refine ⟨_, rfl, Nat.le_of_ble_eq_true rfl, ?_⟩) | (with_reducible refine ⟨_, _, rfl, ?_⟩) | (with_reducible refine ⟨_, _, _, rfl, ?_⟩) | ((with_reducible refine ⟨(fun _ z => nomatch z), ?_⟩); dsimp only [List.set]) | (refine ⟨_, _, rfl, by decide +kernel, ?_⟩) | (refine ⟨Nat.le_of_ble_eq_true rfl, ?_⟩) | (with_reducible refine ⟨rfl, ?_⟩) | dsimp only)
local macro_rules | `(tactic| walk_at "dx") => `(tactic| first
  | ((with_reducible refine ew_demoteL (xs := ?xs) ?hdm ?_); (case hdm => exact rfl); dsimp only [List.set]) | ((with_reducible refine sw_demoteF (xs := ?xs) ?hdm ?_); (case hdm => exact rfl); dsimp only [List.set]) | ((with_reducible refine sw_demoteE (xs := ?xs) ?hdm ?_); (case hdm => exact rfl); dsimp only [List.set])
  | ((with_reducible show EW _ _ _ _ _); walk_at "dx.ew") | ((with_reducible show SW _ _ _ _ _); walk_at "dx.sw") | ((with_reducible show OW _ _ _ _ _); walk_at "dx.ow") | (walk_at "dx.misc"))
local macro_rules | `(tactic| walk_at "go") => `(tactic| repeat walk_at "dx")
local macro_rules | `(tactic| walk_at "put1") => `(tactic| (refine ⟨Nat.le_of_ble_eq_true rfl, _, rfl, ?_⟩; dsimp only [wipeG, List.map, List.set]))
local macro_rules | `(tactic| walk_at "put2") => `(tactic| (refine ⟨⟨Nat.le_of_ble_eq_true rfl, Nat.le_of_ble_eq_true rfl⟩, _, rfl, ?_⟩; dsimp only [wipeG, List.map, List.set]))
def sp_w_condition (m : Nat) : DSpec := fun rs n Q => ∃ (F : Nat) (cs : List Cnt) (deep : Int), rs = [.w, .d (.int (F : Nat)), .r (cs.map Cnt.enc), .d (.int deep)] ∧ 1 ≤ deep ∧ deep ≤ (m : Nat) ∧ 1 ≤ F ∧ F ≤ 12 ∧ cs.length ≤ 3 ∧ (∀ c ∈ cs, CntOk c) ∧ 0 ≤ n ∧ n + ((4 ^ m : Nat) : Int) ≤ 80000 ∧
  ∀ (c : Cond) (n' : Int), c.ok cs.length → c.dep ≤ m + 1 → c.sm → n ≤ n' → n' ≤ n + ((4 ^ m : Nat) : Int) → Q (.d c.enc) n'
def sp_w_deed : DSpec := fun rs n Q => ∃ (lab : PyData) (F : Nat) (cs : List Cnt), rs = [.w, .d lab, .d (.int (F : Nat)), .r (cs.map Cnt.enc)] ∧ LabOk lab ∧ 1 ≤ F ∧ F ≤ 12 ∧ cs.length ≤ 3 ∧ (∀ c ∈ cs, CntOk c) ∧ 0 ≤ n ∧ n ≤ 70000 ∧
  ∀ (d : Deed) (n' : Int), d.lab = lab → DeedOk cs.length d → d.need.sm → n ≤ n' → n' ≤ n + 100 → Q (.d d.enc) n'
theorem int_at {xs : List PyData} {i : Int} (h : ∀ x ∈ xs, ∃ z, x = .int z) (h0 : 0 ≤ i) (h1 : i < xs.length) : ∃ z, atI xs i = some (.int z) := by
  obtain ⟨d, e, hd⟩ := atI_mem h0 h1
  obtain ⟨z, rfl⟩ := h d hd
  exact ⟨z, e⟩
section
variable {P : Program} {w : World} {K : PySem.W.Frag} {mg : Str → Option Value} {base : Heap} {ns : List Int} {k m : Nat}
theorem vac_w_condition {sp : DSpec} (B : Bs K mg) (h : ∀ rs n Q, ¬ sp rs n Q) : Fn P w K mg base ns "_law_condition" k ["_law_draw", "_law_facts", "_law_counts", "_law_deep"] [] sp := by
  obtain ⟨fd, F⟩ := B.says.def_ 24 (d := d_w_condition) rfl
  exact ⟨_, fd, _, fnok_vac h, B.glo 24 _ rfl, F.kp, .nil, F.bindsN fun _ _ _ _ _ _ us hl => match us, hl with | [_, _, _, _], _ => rfl⟩
def nm_w_condition : List Str := ["_law_draw", "_law_facts", "_law_counts", "_law_deep", "_law_number", "_law_way", "_law_one"]
theorem sc_w_condition : FnScope nm_w_condition ["_law_draw", "_law_facts", "_law_counts", "_law_deep"] (defScope s_w_condition) := ⟨rfl, rfl, rfl, by decide +kernel, rfl, by decide +kernel, by decide +kernel⟩
/- slots of w_condition: 0 _law_draw, 1 _law_facts, 2 _law_counts, 3 _law_deep, 4 _law_number, 5 _law_way, 6 _law_one -/
theorem ok_w_condition (B : Bs K mg) (H_w_condition : Fn P w K mg base ns "_law_condition" (9 + k) ["_law_draw", "_law_facts", "_law_counts", "_law_deep"] [] (sp_w_condition m)) (H_w_literal : Fn P w K mg base ns "_law_literal" 9 ["_law_draw", "_law_facts", "_law_counts", "_law_state"] [] sp_w_literal) (H_w_next : Fn P w K mg base ns "_law_next" 2 ["_law_draw"] [] sp_w_next) : Fn P w K mg base ns "_law_condition" ((9 + k) + 1) ["_law_draw", "_law_facts", "_law_counts", "_law_deep"] [] (sp_w_condition (m + 1)) := by
  obtain ⟨fd, F⟩ := B.says.def_ 24 (d := d_w_condition) rfl
  refine ⟨_, fd, _, okD (ns := ns) F sc_w_condition (fun rs n Q h => ?len) (fun cdv A outer s H E hr => ⟨_, PSs.nox (pss_cons (ps_set (i := 4) sc_w_condition.nd rfl (.inl rfl) (pe_fn H_w_next (hr.mono (by omega)) (by rfl) (pa_cons (pv 0) pa_nil)))
      (pss_cons (ps_set (i := 5) sc_w_condition.nd rfl (.inl rfl) (pe_op op_mod (pv 4) pe_int))
      (pss_cons (ps_if (PW.pt (pw_or (pt_cmpR op_lt (pv 3) pe_int (nomark _)) (pw_or1 (pt_cmpR op_lt (pv 5) pe_int (nomark _))))) (pss_one (ps_ret (pe_fn H_w_literal (hr.mono (by omega)) (by rfl) (pa_cons (pv 0) (pa_cons (pv 1) (pa_cons (pv 2) (pa_cons pe_non pa_nil))))))) pss_nil)
      (pss_cons (ps_if (pt_cmpR (op_eqM hr.units) (pv 5) pe_int (nomark _)) (pss_one (ps_ret (pe_tup (pa_cons pe_str (pa_cons (pe_fn H_w_condition (hr.mono (by omega)) (by rfl) (pa_cons (pv 0) (pa_cons (pv 1) (pa_cons (pv 2) (pa_cons (pe_op op_sub (pv 3) pe_int) pa_nil))))) pa_nil))))) pss_nil)
      (pss_cons (ps_set (i := 6) sc_w_condition.nd rfl (.inl rfl) (pe_fn H_w_condition (hr.mono (by omega)) (by rfl) (pa_cons (pv 0) (pa_cons (pv 1) (pa_cons (pv 2) (pa_cons (pe_op op_sub (pv 3) pe_int) pa_nil))))))
      (pss_one (ps_ret (pe_tup (pa_cons (pe_ix (ixA hr.units) (pe_lst (pa_cons pe_str (pa_cons pe_str pa_nil))) (pe_op op_mod (pv 5) pe_int) (fun _ _ => rfl)) (pa_cons (pv 6) (pa_cons (pe_fn H_w_condition (hr.mono (by omega)) (by rfl) (pa_cons (pv 0) (pa_cons (pv 1) (pa_cons (pv 2) (pa_cons (pe_op op_sub (pv 3) pe_int) pa_nil))))) pa_nil))))))))))), fun rs n Q h => ?walk⟩), B.glo 24 _ rfl, F.kp, .nil, F.bindsN fun _ _ _ _ _ _ us hl => match us, hl with | [_, _, _, _], _ => rfl⟩
  case len =>
    obtain ⟨_, _, _, rfl, _⟩ := h
    rfl
  case walk =>
    obtain ⟨F, cs, deep, rfl, hd1, hd2, hF1, hF2, hcl, hcs, h0, h1, hQ⟩ := h
    show SW _ _ [.w, .d (.int (F : Nat)), .r (cs.map Cnt.enc), .d (.int deep), .u, .u, .u] n _
    dsimp only [cxOf]
    have h4 : 4 ^ (m + 1) = 4 * 4 ^ m := by rw [Nat.pow_succ, Nat.mul_comm]
    have h5 : 1 ≤ 4 ^ m := Nat.one_le_pow _ _ (by decide)
    rw [h4] at h1
    walk_at "go"
    refine ⟨rfl, h0, by omega, fun v hv => ⟨rfl, ?_⟩⟩
    walk_at "go"
    have lit : ∀ (c : Cond), c.ok cs.length → c.dep ≤ 2 → c.sm → Q (.d c.enc) (n + 1 + 1) := fun c a b d => hQ c _ a (by omega) d (by omega) (by rw [h4]; omega)
    refine br_2 (fun b1 => ?_) (fun b1 => ?_)
    · walk_at "go"
      exact ⟨F, cs, .none, rfl, hF1, hF2, hcl, hcs, .inl rfl, by omega, by omega, fun c a b d => ⟨rfl, lit c a b d⟩⟩
    · have b1 := of_decide_eq_false b1
      walk_at "go"
      refine br_2 (fun b2 => ?_) (fun b2 => ?_)
      · walk_at "go"
        exact ⟨F, cs, .none, rfl, hF1, hF2, hcl, hcs, .inl rfl, by omega, by omega, fun c a b d => ⟨rfl, lit c a b d⟩⟩
      · walk_at "go"
        refine br_2 (fun b3 => ?_) (fun b3 => ?_)
        · walk_at "go"
          refine ⟨F, cs, deep - 1, rfl, by omega, by omega, hF1, hF2, hcl, hcs, by omega, by omega, fun c n' a b d e f => ⟨rfl, ?_⟩⟩
          walk_at "go"
          exact hQ (.nt c) n' a (by show c.dep + 1 ≤ _; omega) d (by omega) (by rw [h4]; omega)
        · walk_at "go"
          refine ⟨F, cs, deep - 1, rfl, by omega, by omega, hF1, hF2, hcl, hcs, by omega, by omega, fun c n' a b d e f => ⟨rfl, ?_⟩⟩
          walk_at "go"
          have ev2 : v % 8 % 2 = 0 ∨ v % 8 % 2 = 1 := by omega
          rcases ev2 with ev | ev
          · rw [ev]
            refine ow_ixL (.inl rfl) rfl ?_
            walk_at "go"
            refine ⟨F, cs, deep - 1, rfl, by omega, by omega, hF1, hF2, hcl, hcs, by omega, by omega, fun c2 n2 a2 b2 d2 e2 f2 => ⟨rfl, ?_⟩⟩
            walk_at "go"
            exact hQ (.an c c2) n2 ⟨a, a2⟩ (by show max c.dep c2.dep + 1 ≤ _; omega) ⟨d, d2⟩ (by omega) (by rw [h4]; omega)
          · rw [ev]
            refine ow_ixL (.inl rfl) rfl ?_
            walk_at "go"
            refine ⟨F, cs, deep - 1, rfl, by omega, by omega, hF1, hF2, hcl, hcs, by omega, by omega, fun c2 n2 a2 b2 d2 e2 f2 => ⟨rfl, ?_⟩⟩
            walk_at "go"
            exact hQ (.orr c c2) n2 ⟨a, a2⟩ (by show max c.dep c2.dep + 1 ≤ _; omega) ⟨d, d2⟩ (by omega) (by rw [h4]; omega)
theorem fn_w_condition (B : Bs K mg) (HN : Fn P w K mg base ns "_law_next" 2 ["_law_draw"] [] sp_w_next) (HL : Fn P w K mg base ns "_law_literal" 9 ["_law_draw", "_law_facts", "_law_counts", "_law_state"] [] sp_w_literal) :
    ∀ m : Nat, Fn P w K mg base ns "_law_condition" (9 + m) ["_law_draw", "_law_facts", "_law_counts", "_law_deep"] [] (sp_w_condition m)
  | 0 => vac_w_condition B fun rs n Q h => by
    obtain ⟨F, cs, deep, _, h1, h2, _⟩ := h
    omega
  | m + 1 => ok_w_condition B (H_w_next := HN) (H_w_literal := HL) (H_w_condition := fn_w_condition B HN HL m)
def nm_w_deed : List Str := ["_law_draw", "_law_label", "_law_facts", "_law_counts", "_law_number", "_law_need", "_law_moves", "_law_k", "_law_count", "_law_more", "_law_amount", "_law_makes", "_law_drops", "_law_cost", "_law_span"]
theorem sc_w_deed : FnScope nm_w_deed ["_law_draw", "_law_label", "_law_facts", "_law_counts"] (defScope s_w_deed) := ⟨rfl, rfl, rfl, by decide +kernel, rfl, by decide +kernel, by decide +kernel⟩
/- slots of w_deed: 0 _law_draw, 1 _law_label, 2 _law_facts, 3 _law_counts, 4 _law_number, 5 _law_need, 6 _law_moves, 7 _law_k, 8 _law_count, 9 _law_more, 10 _law_amount, 11 _law_makes, 12 _law_drops, 13 _law_cost, 14 _law_span -/
theorem ok_w_deed (B : Bs K mg) (H_w_bits : Fn P w K mg base ns "_law_bits" 2 ["_law_number", "_law_facts", "_law_many"] [] sp_w_bits) (H_w_mixed : Fn P w K mg base ns "_law_mixed" 1 ["_law_number", "_law_k"] [] sp_w_mixed) (H_w_condition : Fn P w K mg base ns "_law_condition" 12 ["_law_draw", "_law_facts", "_law_counts", "_law_deep"] [] (sp_w_condition 3)) (H_w_next : Fn P w K mg base ns "_law_next" 2 ["_law_draw"] [] sp_w_next) : Fn P w K mg base ns "_law_deed" (12 + 1) ["_law_draw", "_law_label", "_law_facts", "_law_counts"] [] sp_w_deed := by
  obtain ⟨fd, F⟩ := B.says.def_ 26 (d := d_w_deed) rfl
  refine ⟨_, fd, _, okD (ns := ns) F sc_w_deed (fun rs n Q h => ?len) (fun cdv A outer s H E hr => ⟨_, PSs.nox (pss_cons (ps_set (i := 4) sc_w_deed.nd rfl (.inl rfl) (pe_fn H_w_next (hr.mono (by omega)) (by rfl) (pa_cons (pv 0) pa_nil)))
      (pss_cons (ps_set (i := 5) sc_w_deed.nd rfl (.inl rfl) (pe_tup (pa_cons pe_str pa_nil)))
      (pss_cons (ps_if (pt_cmpR op_gt (pe_op op_mod (pv 4) pe_int) pe_int (nomark _)) (pss_one (ps_set (i := 5) sc_w_deed.nd rfl (.inl rfl) (pe_fn H_w_condition (hr.mono (by omega)) (by rfl) (pa_cons (pv 0) (pa_cons (pv 2) (pa_cons (pv 3) (pa_cons (pe_op op_plus pe_int (pe_op op_fdiv (pe_op op_mod (pv 4) pe_int) pe_int)) pa_nil))))))) pss_nil)
      (pss_cons (ps_set (i := 6) sc_w_deed.nd rfl (.inl rfl) (pe_lst pa_nil))
      (pss_cons (ps_for PassesOwn.never rfl (pi_enum (by rfl) (B.free 40 _ rfl) (pa_cons (pv 3) pa_nil)) (pg_tup (n := 2) rfl (pgs_cons (pg_name (i := 7) sc_w_deed.nd rfl (.inl rfl)) (pgs_cons (pg_name (i := 8) sc_w_deed.nd rfl (.inl rfl)) pgs_nil))) (pss_cons (ps_set (i := 9) sc_w_deed.nd rfl (.inl rfl) (pe_fn H_w_mixed (hr.mono (by omega)) (by rfl) (pa_cons (pv 4) (pa_cons (pe_op op_plus pe_int (pv 7)) pa_nil))))
      (pss_cons (ps_set (i := 10) sc_w_deed.nd rfl (.inl rfl) (pe_ix (ixA hr.units) (pe_lst (pa_cons pe_int (pa_cons pe_int (pa_cons (pe_un un_neg pe_int) (pa_cons pe_int (pa_cons (pe_un un_neg pe_int) (pa_cons pe_int (pa_cons (pe_op op_pow pe_int pe_int) (pa_cons (pe_un un_neg (pe_op op_pow pe_int pe_int)) pa_nil))))))))) (pe_op op_mod (pe_op op_fdiv (pv 9) pe_int) pe_int) (fun _ _ => rfl)))
      (pss_one (ps_if (pt_cmpR (op_eqM hr.units) (pe_op op_mod (pv 9) pe_int) pe_int (nomark _)) (pss_one (ps_expr (pe_bm PySem.F.plainAttrs_list PySem.F.slot_list_append PySem.F.type_list_append mt_append (pv 6) (pa_cons (pe_tup (pa_cons (pv 7) (pa_cons (pv 10) pa_nil))) pa_nil)))) pss_nil)))))
      (pss_cons (ps_set (i := 11) sc_w_deed.nd rfl (.inl rfl) (pe_fn H_w_bits (hr.mono (by omega)) (by rfl) (pa_cons (pv 4) (pa_cons (pv 2) (pa_cons (pe_op op_mod (pe_op op_fdiv (pv 4) pe_int) pe_int) pa_nil)))))
      (pss_cons (ps_set (i := 12) sc_w_deed.nd rfl (.inl rfl) (pe_fn H_w_bits (hr.mono (by omega)) (by rfl) (pa_cons (pe_op op_plus (pv 4) pe_int) (pa_cons (pv 2) (pa_cons (pe_op op_mod (pe_op op_fdiv (pv 4) pe_int) pe_int) pa_nil)))))
      (pss_cons (ps_set (i := 13) sc_w_deed.nd rfl (.inl rfl) (pe_ix (ixA hr.units) (pe_lst (pa_cons pe_int (pa_cons pe_int (pa_cons pe_int (pa_cons pe_int (pa_cons pe_int (pa_cons pe_int (pa_cons (pe_op op_mod (pv 4) (pe_op op_pow pe_int pe_int)) (pa_cons (pe_op op_pow pe_int pe_int) pa_nil))))))))) (pe_op op_mod (pe_op op_fdiv (pv 4) pe_int) pe_int) (fun _ _ => rfl)))
      (pss_cons (ps_set (i := 14) sc_w_deed.nd rfl (.inl rfl) (pe_ix (ixA hr.units) (pe_lst (pa_cons pe_int (pa_cons pe_int (pa_cons pe_int (pa_cons pe_int (pa_cons pe_int (pa_cons pe_int (pa_cons (pe_op op_mod (pe_op op_fdiv (pv 4) pe_int) (pe_op op_pow pe_int pe_int)) (pa_cons (pe_op op_pow pe_int pe_int) pa_nil))))))))) (pe_op op_mod (pe_op op_fdiv (pv 4) pe_int) pe_int) (fun _ _ => rfl)))
      (pss_one (ps_ret (pe_tup (pa_cons (pv 1) (pa_cons (pv 5) (pa_cons (pv 11) (pa_cons (pv 12) (pa_cons (pe_callTy call_tupA (by rfl) (B.free 50 _ rfl) (by decide +kernel) (pa_cons (pv 6) pa_nil)) (pa_cons (pv 13) (pa_cons (pv 14) pa_nil))))))))))))))))))), fun rs n Q h => ?walk⟩), B.glo 26 _ rfl, F.kp, .nil, F.bindsN fun _ _ _ _ _ _ us hl => match us, hl with | [_, _, _, _], _ => rfl⟩
  case len =>
    obtain ⟨_, _, _, rfl, _⟩ := h
    rfl
  case walk =>
    obtain ⟨lab, F, cs, rfl, hL, hF1, hF2, hcl, hcs, h0, h1, hQ⟩ := h
    show SW _ _ [.w, .d lab, .d (.int (F : Nat)), .r (cs.map Cnt.enc), .u, .u, .u, .u, .u, .u, .u, .u, .u, .u, .u] n _
    dsimp only [cxOf]
    walk_at "go"
    refine ⟨rfl, h0, by omega, fun v hv => ⟨rfl, ?_⟩⟩
    walk_at "go"
    have e64 : ((4 ^ 3 : Nat) : Int) = 64 := rfl
    refine br_2 (fun b1 => ?_) (fun b1 => ?_)
    · walk_at "go"
      refine ⟨F, cs, 1 + v % 5 / 2, rfl, by omega, by omega, hF1, hF2, hcl, hcs, by omega, by rw [e64]; omega, fun c n1 hc1 hc2 hc3 hn1 hn2 => ⟨rfl, ?_⟩⟩
      rw [e64] at hn2
      have hn3 : n1 ≤ n + 100 := by omega
      have hn4 : n ≤ n1 := by omega
      have hc4 : c.dep ≤ 8 := by omega
      clear hn2 hn1 hc2 b1 e64
      walk_at "go"
      refine loop_inv (fun ds G n' => ∃ (pre : Nat) (r : List Cnt) (ms : List (Nat × Int)) (a1 a2 a3 a4 : Rs), ds = enumD pre (r.map Cnt.enc) ∧ G = [.w, .d lab, .d (.int (F : Nat)), .r (cs.map Cnt.enc), .d (.int v), .d c.enc, .l (ms.map mvD), a1, a2, a3, a4, .u, .u, .u, .u] ∧ n' = n1 ∧ pre + r.length = cs.length ∧ (∀ m ∈ ms, m.1 < pre) ∧ ms.Pairwise (fun a b => a.1 ≠ b.1) ∧ ms.length ≤ pre) ?_ ?_ _ _ _ ⟨0, cs, [], _, _, _, _, rfl, rfl, rfl, Nat.zero_add _, (fun m hm => by cases hm), List.Pairwise.nil, Nat.le_refl _⟩
      · rintro G n' ⟨pre, r, ms, a1, a2, a3, a4, e, rfl, rfl, hpr, hms, hmp, hml⟩
        cases r with
        | cons _ _ => cases e
        | nil =>
          walk_at "go"
          refine ⟨v, F, v / 5 % 3, rfl, hF1, hF2, by omega, by omega, fun mk hmk => ⟨rfl, ?_⟩⟩
          walk_at "go"
          refine ⟨v + 9, F, v / 15 % 3, rfl, hF1, hF2, by omega, by omega, fun dr hdr => ⟨rfl, ?_⟩⟩
          walk_at "go"
          walk_at "go"
          obtain ⟨z1, e1⟩ := int_at (xs := [PyData.int 0, .int 1, .int 1, .int 2, .int 3, .int 7, .int (v % 10 ^ (9 : Int).toNat), .int (10 ^ (9 : Int).toNat)]) (i := v / 45 % 8) (by simp) (by omega) (by show _ < (8 : Int); omega)
          refine ow_ixL (.inl rfl) e1 ?_
          walk_at "go"
          obtain ⟨z2, e2⟩ := int_at (xs := [PyData.int 0, .int 1, .int 2, .int 3, .int 5, .int 8, .int (v / 2 % 10 ^ (9 : Int).toNat), .int (10 ^ (9 : Int).toNat)]) (i := v / 360 % 8) (by simp) (by omega) (by show _ < (8 : Int); omega)
          refine ow_ixL (.inl rfl) e2 ?_
          walk_at "go"
          exact hQ ⟨lab, c, mk, dr, ms, z1, z2⟩ n' rfl ⟨hL, hc1, hc4, fun m hm => by have := hms m hm; rw [List.length_nil] at hpr; omega, by show ms.length ≤ 1000; rw [List.length_nil] at hpr; omega, hmp⟩ hc3 hn4 hn3
      · rintro x ds G n' ⟨pre, r, ms, a1, a2, a3, a4, e, rfl, rfl, hpr, hms, hmp, hml⟩
        cases r with
        | nil => cases e
        | cons c r =>
          rw [List.map_cons, enumD] at e
          obtain ⟨rfl, rfl⟩ := List.cons.inj e
          rw [List.length_cons] at hpr
          walk_at "put2"
          walk_at "go"
          refine ⟨v, 20 + (pre : Nat), rfl, by omega, by omega, fun u hu => ⟨rfl, ?_⟩⟩
          walk_at "go"
          obtain ⟨z3, e3⟩ := int_at (xs := [PyData.int 1, .int 1, .int (-1), .int 2, .int (-2), .int 3, .int (10 ^ (9 : Int).toNat), .int (-10 ^ (9 : Int).toNat)]) (i := u / 3 % 8) (by simp) (by have := hu.1; omega) (by show _ < (8 : Int); omega)
          refine ow_ixL (.inl rfl) e3 ?_
          walk_at "go"
          refine br_2 (fun b2 => ?_) (fun b2 => ?_)
          · walk_at "go"
            refine sw_append rfl (by rw [List.length_map]; omega) ?_
            walk_at "go"
            refine ⟨pre + 1, r, ms ++ [(pre, z3)], _, _, _, _, rfl, by rw [List.map_append]; rfl, rfl, by omega, fun m hm => ?_, ?_, by rw [List.length_append]; show ms.length + 1 ≤ _; omega⟩
            · rcases List.mem_append.1 hm with hm | hm
              · exact Nat.lt_succ_of_lt (hms m hm)
              · rw [List.mem_singleton.1 hm]
                exact Nat.lt_succ_self _
            · refine List.pairwise_append.2 ⟨hmp, List.pairwise_singleton _ _, fun a ha b hb => ?_⟩
              rw [List.mem_singleton.1 hb]
              exact Nat.ne_of_lt (hms a ha)
          · walk_at "go"
            exact ⟨pre + 1, r, ms, _, _, _, _, rfl, rfl, rfl, by omega, fun m hm => Nat.lt_succ_of_lt (hms m hm), hmp, by omega⟩
    · have hn3 : n + 1 ≤ n + 100 := by omega
      have hn4 : n ≤ n + 1 := by omega
      have hc1 : Cond.ok cs.length .tru := trivial
      have hc3 : Cond.sm .tru := trivial
      have hc4 : Cond.dep .tru ≤ 8 := by decide
      generalize n + 1 = n1 at hn3 hn4
      walk_at "go"
      refine loop_inv (fun ds G n' => ∃ (pre : Nat) (r : List Cnt) (ms : List (Nat × Int)) (a1 a2 a3 a4 : Rs), ds = enumD pre (r.map Cnt.enc) ∧ G = [.w, .d lab, .d (.int (F : Nat)), .r (cs.map Cnt.enc), .d (.int v), .d (Cond.enc .tru), .l (ms.map mvD), a1, a2, a3, a4, .u, .u, .u, .u] ∧ n' = n1 ∧ pre + r.length = cs.length ∧ (∀ m ∈ ms, m.1 < pre) ∧ ms.Pairwise (fun a b => a.1 ≠ b.1) ∧ ms.length ≤ pre) ?_ ?_ _ _ _ ⟨0, cs, [], _, _, _, _, rfl, rfl, rfl, Nat.zero_add _, (fun m hm => by cases hm), List.Pairwise.nil, Nat.le_refl _⟩
      · rintro G n' ⟨pre, r, ms, a1, a2, a3, a4, e, rfl, rfl, hpr, hms, hmp, hml⟩
        cases r with
        | cons _ _ => cases e
        | nil =>
          walk_at "go"
          refine ⟨v, F, v / 5 % 3, rfl, hF1, hF2, by omega, by omega, fun mk hmk => ⟨rfl, ?_⟩⟩
          walk_at "go"
          refine ⟨v + 9, F, v / 15 % 3, rfl, hF1, hF2, by omega, by omega, fun dr hdr => ⟨rfl, ?_⟩⟩
          walk_at "go"
          walk_at "go"
          obtain ⟨z1, e1⟩ := int_at (xs := [PyData.int 0, .int 1, .int 1, .int 2, .int 3, .int 7, .int (v % 10 ^ (9 : Int).toNat), .int (10 ^ (9 : Int).toNat)]) (i := v / 45 % 8) (by simp) (by omega) (by show _ < (8 : Int); omega)
          refine ow_ixL (.inl rfl) e1 ?_
          walk_at "go"
          obtain ⟨z2, e2⟩ := int_at (xs := [PyData.int 0, .int 1, .int 2, .int 3, .int 5, .int 8, .int (v / 2 % 10 ^ (9 : Int).toNat), .int (10 ^ (9 : Int).toNat)]) (i := v / 360 % 8) (by simp) (by omega) (by show _ < (8 : Int); omega)
          refine ow_ixL (.inl rfl) e2 ?_
          walk_at "go"
          exact hQ ⟨lab, .tru, mk, dr, ms, z1, z2⟩ n' rfl ⟨hL, hc1, hc4, fun m hm => by have := hms m hm; rw [List.length_nil] at hpr; omega, by show ms.length ≤ 1000; rw [List.length_nil] at hpr; omega, hmp⟩ hc3 hn4 hn3
      · rintro x ds G n' ⟨pre, r, ms, a1, a2, a3, a4, e, rfl, rfl, hpr, hms, hmp, hml⟩
        cases r with
        | nil => cases e
        | cons c r =>
          rw [List.map_cons, enumD] at e
          obtain ⟨rfl, rfl⟩ := List.cons.inj e
          rw [List.length_cons] at hpr
          walk_at "put2"
          walk_at "go"
          refine ⟨v, 20 + (pre : Nat), rfl, by omega, by omega, fun u hu => ⟨rfl, ?_⟩⟩
          walk_at "go"
          obtain ⟨z3, e3⟩ := int_at (xs := [PyData.int 1, .int 1, .int (-1), .int 2, .int (-2), .int 3, .int (10 ^ (9 : Int).toNat), .int (-10 ^ (9 : Int).toNat)]) (i := u / 3 % 8) (by simp) (by have := hu.1; omega) (by show _ < (8 : Int); omega)
          refine ow_ixL (.inl rfl) e3 ?_
          walk_at "go"
          refine br_2 (fun b2 => ?_) (fun b2 => ?_)
          · walk_at "go"
            refine sw_append rfl (by rw [List.length_map]; omega) ?_
            walk_at "go"
            refine ⟨pre + 1, r, ms ++ [(pre, z3)], _, _, _, _, rfl, by rw [List.map_append]; rfl, rfl, by omega, fun m hm => ?_, ?_, by rw [List.length_append]; show ms.length + 1 ≤ _; omega⟩
            · rcases List.mem_append.1 hm with hm | hm
              · exact Nat.lt_succ_of_lt (hms m hm)
              · rw [List.mem_singleton.1 hm]
                exact Nat.lt_succ_self _
            · refine List.pairwise_append.2 ⟨hmp, List.pairwise_singleton _ _, fun a ha b hb => ?_⟩
              rw [List.mem_singleton.1 hb]
              exact Nat.ne_of_lt (hms a ha)
          · walk_at "go"
            exact ⟨pre + 1, r, ms, _, _, _, _, rfl, rfl, rfl, by omega, fun m hm => Nat.lt_succ_of_lt (hms m hm), hmp, by omega⟩
end
end Dd
set_option Elab.async false
set_option linter.all false
set_option maxRecDepth 100000
set_option autoImplicit false
set_option maxHeartbeats 1000000
/-! Pl: a walk, a world. -/
namespace Dd
open PySem PySem.Spec PyProof.Rows L2 Dl
local macro_rules | `(tactic| walk_at "dx.var") => `(tactic| ((with_reducible show EW _ (tVar _) _ _ _); first
  | (refine ew_varD rfl ?_) | (refine ew_varR rfl ?_) | (refine ew_varL rfl ?_) | (refine ew_varW rfl ?_) | (refine ew_varS rfl ?_) | (refine ew_varT rfl ?_)))
local macro_rules | `(tactic| walk_at "dx.ew") => `(tactic| first
  | (walk_at "dx.var")
  | (with_reducible refine ew_int ?_) | ((with_reducible refine ew_str ?hh ?_); (case hh => decide +kernel)) | (with_reducible refine ew_bl ?_) | (with_reducible refine ew_non ?_)
  | ((with_reducible show EW _ (tOp (rIxA _ _) (tVar _) (tC (.int 0))) _ _ _); refine ew_w0 rfl ?_) | ((with_reducible show EW _ (tOp (rIxA _ _) (tVar _) (tC (.int 1))) _ _ _); refine ew_w1 rfl ?_)
  | (with_reducible refine ew_op ?_) | (with_reducible refine ew_un ?_) | (with_reducible refine ew_tupE ?_) | (with_reducible refine ew_lstE ?_) | (with_reducible refine ew_isi ?_) | (with_reducible refine ew_cb ?_)
  | (with_reducible refine ew_andV ?_) | (with_reducible refine ew_orV ?_) | (with_reducible refine ew_notV ?_) | ((with_reducible refine ew_callWv ?hw ?_); (case hw => exact rfl)) | (with_reducible refine ew_call ?_) | (with_reducible refine ew_callD ?_) | ((with_reducible refine ew_lc1 ?hq ?_); (case hq => exact rfl)) | ((with_reducible refine ew_lc2 ?hq ?hq2 ?_); (case hq => exact rfl); (case hq2 => exact rfl)) | (with_reducible refine ew_if ?_) | (with_reducible refine ew_chain ?_) | (with_reducible refine ew_sl ?_) | (with_reducible refine ew_bmS ?_) | (with_reducible refine ew_back ?_))
local macro_rules | `(tactic| walk_at "dx.ow") => `(tactic| first
  | (with_reducible refine ow_addI ?_) | (with_reducible refine ow_eqI ?_) | (with_reducible refine ow_eqS ?_) | (with_reducible refine ow_neI ?_) | (with_reducible refine ow_neS ?_) | (with_reducible refine ow_neN (.inr rfl) (.inl rfl) ?_) | (with_reducible refine ow_eqN (.inr rfl) (.inl rfl) ?_) | ((with_reducible refine ow_inT ?hmm ?_); (case hmm => exact Nat.le_of_ble_eq_true rfl)) | (with_reducible refine ow_isN ?_) | (with_reducible refine ow_noN ?_)
  | (with_reducible refine ow_intB ?_) | (with_reducible refine ow_int ?_) | ((with_reducible refine ow_intC ?hc ?_); (case hc => first | decide | omega | exact ⟨by decide, by decide⟩ | exact ⟨by omega, by omega⟩ | exact ⟨by decide, by decide, by decide⟩ | exact ⟨by omega, by omega, by decide⟩))
  | ((with_reducible refine ow_mulI ?hcm ?_); (case hcm => first | exact Or.inl ⟨by decide, by decide⟩ | exact Or.inr ⟨by decide, by decide⟩ | exact Or.inl ⟨by omega, by omega⟩ | exact Or.inr ⟨by omega, by omega⟩))
  | ((with_reducible show OW _ (rIxA _ _) (Rs.d _) (Rs.d _) _); refine ow_ixT rfl ?_))
local macro_rules | `(tactic| walk_at "dx.sw") => `(tactic| first
  | (walk_at "dx.for") | (with_reducible refine sw_seq ?_) | (with_reducible refine sw_next ?_) | ((with_reducible show SW _ (tDrop (tCall _ _ _ _)) _ _ _); refine sw_expr ?_) | (with_reducible refine sw_cont ?_) | (with_reducible refine sw_ret ?_) | (with_reducible refine sw_retN ?_) | (with_reducible refine sw_if ?_)
  | ((with_reducible show SW _ (tAsg (tBM0 _ _ rPop (tVar _)) _) _ _ _); refine sw_pop2 (Nat.le_of_ble_eq_true rfl) (Nat.le_of_ble_eq_true rfl) rfl ?_; dsimp only [List.set])
  | ((with_reducible show SW _ (tDrop (tBM _ _ rExtend _ _)) _ _ _); refine sw_extend rfl ?_) | ((with_reducible show SW _ (tDrop (tBM0 _ _ rReverse _)) _ _ _); refine sw_reverse rfl ?_)
  | ((with_reducible show SW _ (tAsg _ (gSub (tVar _) _ _)) _ _ _); first | (refine sw_draw rfl ?_) | (refine sw_store rfl ?_))
  | ((with_reducible refine sw_aliasL (xs := ?xs) ?hi ?hal ?_); (case hal => exact rfl); (case hi => exact Nat.le_of_ble_eq_true rfl); dsimp only [List.set])
  | ((with_reducible refine sw_set ?hi ?_); (case hi => exact Nat.le_of_ble_eq_true rfl))
  | ((with_reducible refine sw_par ?hi ?hj ?_); (case hi => exact Nat.le_of_ble_eq_true rfl); (case hj => exact Nat.le_of_ble_eq_true rfl); dsimp only [List.set])
  | ((with_reducible refine sw_asg2 ?hi ?hj ?_); (case hi => exact Nat.le_of_ble_eq_true rfl); (case hj => exact Nat.le_of_ble_eq_true rfl); dsimp only [List.set])
  | ((with_reducible refine sw_asg3 ?hi ?hj ?hk ?_); (case hi => exact Nat.le_of_ble_eq_true rfl); (case hj => exact Nat.le_of_ble_eq_true rfl); (case hk => exact Nat.le_of_ble_eq_true rfl); dsimp only [List.set])
  | ((with_reducible refine sw_aug (a := ?aa) ?hi ?_); (case hi => exact rfl); dsimp only [List.set]))
local macro_rules | `(tactic| walk_at "dx.for") => `(tactic| first
  | (with_reducible refine sw_for1 ?_) | (with_reducible refine sw_for2 ?_))
local macro_rules | `(tactic| walk_at "dx.misc") => `(tactic| first
  | (with_reducible refine ea_cons ?_) | (with_reducible refine ea_nil ?_)
  | (with_reducible refine tw_test ?_) | (with_reducible refine tw_B ?_) | (with_reducible refine tw_and ?_) | (with_reducible refine tw_or ?_) | (with_reducible refine tw_not ?_) | (with_reducible refine tw_yes ?_)
  | (with_reducible refine wi_tup ?_) | (with_reducible refine wi_enumT ?_) | (with_reducible refine wi_zipT ?_) | (with_reducible refine wi_rev ?_) | (with_reducible refine wi_range ?_) | (refine wi_enum rfl ?_) | (refine wi_var rfl ?_) | ((with_reducible show WI _ (iList _ (tCall _ _ _ _)) _ _ _); refine wi_new ?_) | (with_reducible refine uw_int ?_) | (with_reducible refine op_no ?_) | (with_reducible refine op_int ?_)
  | ((with_reducible show Br (decide ((_ : Int) < _)) _ _); first | (refine br_t rfl ?_) | (refine br_f rfl ?_)) | ((with_reducible show Br (decide ((_ : Int) ≤ _)) _ _); first | (refine br_t rfl ?_) | (refine br_f rfl ?_)) | ((with_reducible show Br (decide ((_ : Int) = _)) _ _); first | (refine br_t rfl ?_) | (refine br_f rfl ?_)) | ((with_reducible show Br (!decide ((_ : Int) = _)) _ _); first | (refine br_t rfl ?_) | (refine br_f rfl ?_))
  | ((with_reducible show Br (isNone _) _ _); first | (refine br_t rfl ?_) | (refine br_f rfl ?_)) | ((with_reducible show Br (!isNone _) _ _); first | (refine br_t rfl ?_) | (refine br_f rfl ?_))
  | ((with_reducible show Br true _ _); refine br_t rfl ?_) | ((with_reducible show Br false _ _); refine br_f rfl ?_) | (refine br_t (by decide +kernel) ?_) | (refine br_f (by decide +kernel) ?_)
  | (with_reducible refine cw_lenT ?_) | (with_reducible refine cw_listT ?_) | (with_reducible refine cw_tupL (.inr rfl) ?_) | (with_reducible refine cw_tupL (.inl rfl) ?_) | (with_reducible refine cw_lenL (.inr rfl) ?_) | (with_reducible refine cw_lenL (.inl rfl) ?_) | (with_reducible refine cw_lenW ?_)
  | (refine ⟨_, _, rfl, kit_ii, ?_⟩) | (refine ⟨_, _, rfl, kit_ib, ?_⟩) | (refine ⟨_, _, rfl, kit_tt, ?_⟩) | (refine ⟨_, _, rfl, kit_ss, ?_⟩)
  | (with_reducible refine ⟨_, rfl, ?_⟩) | (refine ⟨_, rfl, Nat.le_of_ble_eq_true rfl, ?_⟩) | (with_reducible refine ⟨_, _, rfl, ?_⟩) | (with_reducible refine ⟨_, _, _, rfl, ?_⟩) | ((with_reducible refine ⟨(fun _ z => nomatch z), ?_⟩); (try dsimp only [List.set])) | (refine ⟨_, _, rfl, by decide +kernel, ?_⟩) | (refine ⟨Nat.le_of_ble_eq_true rfl, ?_⟩) | (with_reducible refine ⟨rfl, ?_⟩) | dsimp only)
local macro_rules | `(tactic| walk_at "dx") => `(tactic| first
  | ((with_reducible refine ew_demoteL (xs := ?xs) ?hdm ?_); (case hdm => exact rfl); dsimp only [List.set]) | ((with_reducible refine sw_demoteF (xs := ?xs) ?hdm ?_); (case hdm => exact rfl); dsimp only [List.set]) | ((with_reducible refine sw_demoteE (xs := ?xs) ?hdm ?_); (case hdm => exact rfl); dsimp only [List.set])
  | ((with_reducible show EW _ _ _ _ _); walk_at "dx.ew") | ((with_reducible show SW _ _ _ _ _); walk_at "dx.sw") | ((with_reducible show OW _ _ _ _ _); walk_at "dx.ow") | (walk_at "dx.misc"))
local macro_rules | `(tactic| walk_at "go") => `(tactic| repeat walk_at "dx")
local macro_rules | `(tactic| walk_at "put1") => `(tactic| (refine ⟨Nat.le_of_ble_eq_true rfl, _, rfl, ?_⟩; dsimp only [wipeG, List.map, List.set]))
local macro_rules | `(tactic| walk_at "put2") => `(tactic| (refine ⟨⟨Nat.le_of_ble_eq_true rfl, Nat.le_of_ble_eq_true rfl⟩, _, rfl, ?_⟩; dsimp only [wipeG, List.map, List.set]))
def sp_w_walk : DSpec := fun rs n Q => ∃ (W : Wd) (most : Int), rs = [.w, .d W.enc, .d (.int most)] ∧ WdOk W ∧ 0 ≤ most ∧ most ≤ 12 ∧ 0 ≤ n ∧ n ≤ 70000 ∧
  ∀ (ls : List PyData) (s : Sta) (n' : Int), ls.length ≤ 12 → (∀ l ∈ ls, ∃ d ∈ W.deeds, d.lab = l) → s.am.length = W.counts.length → n ≤ n' → n' ≤ n + 20 → Q (.d (.tuple [.tuple ls, s.enc])) n'
theorem depth_ints : ∀ l : List Int, PyData.depthAll (l.map PyData.int) = 0
  | [] => rfl
  | z :: r => by
    rw [List.map_cons, PyData.depthAll, depth_ints r]
    rfl
theorem sta_depth (s : Sta) : s.enc.depth ≤ 2 := by
  show (PyData.tuple [.int (s.bits : Nat), .tuple (s.am.map PyData.int)]).depth ≤ 2
  simp only [PyData.depth, PyData.depthAll, depth_ints]
  omega
theorem done_some {cs : List Cnt} {d : Deed} {s s' : Sta} (h : done cs d s = some s') : s'.am.length = s.am.length := by
  unfold done at h
  by_cases h1 : holds d.need s = true
  · rw [if_pos h1] at h
    by_cases h2 : beyond cs s.am d.moves = none
    · rw [if_pos h2] at h
      cases h
      exact moved_len d.moves s.am
    · rw [if_neg h2] at h
      cases h
  · rw [if_neg h1] at h
    cases h
theorem none_sta (x : Option Sta) : isNone (staD x) = !x.isSome := by cases x <;> rfl
section
variable {P : Program} {w : World} {K : PySem.W.Frag} {mg : Str → Option Value} {base : Heap} {ns : List Int} {k m : Nat}
def nm_w_walk : List Str := ["_law_draw", "_law_plain", "_law_most", "_law_state", "_law_found", "_law_turn", "_law_behind", "_law_moved", "_law_number", "_law_label", "_law_deed_here", "_law_pair"]
theorem sc_w_walk : FnScope nm_w_walk ["_law_draw", "_law_plain", "_law_most"] (defScope s_w_walk) := ⟨rfl, rfl, rfl, by decide +kernel, rfl, by decide +kernel, by decide +kernel⟩
/- slots of w_walk: 0 _law_draw, 1 _law_plain, 2 _law_most, 3 _law_state, 4 _law_found, 5 _law_turn, 6 _law_behind, 7 _law_moved, 8 _law_number, 9 _law_label, 10 _law_deed_here, 11 _law_pair -/
theorem ok_w_walk (B : Bs K mg) (H_w_next : Fn P w K mg base ns "_law_next" 2 ["_law_draw"] [] sp_w_next) (H_w_done : Fn P w K mg base ns "_law_done" 9 ["_law_plain", "_law_deed_here", "_law_state"] [] sp_w_done) : Fn P w K mg base ns "_law_walk" (9 + 1) ["_law_draw", "_law_plain", "_law_most"] [] sp_w_walk := by
  obtain ⟨fd, F⟩ := B.says.def_ 27 (d := d_w_walk) rfl
  refine ⟨_, fd, _, okD (ns := ns) F sc_w_walk (fun rs n Q h => ?len) (fun cdv A outer s H E hr => ⟨_, PSs.nox (pss_cons (ps_set (i := 3) sc_w_walk.nd rfl (.inr rfl) (pe_ix (ixA hr.units) (pv 1) pe_int (fun _ _ => rfl)))
      (pss_cons (ps_set (i := 4) sc_w_walk.nd rfl (.inl rfl) (pe_lst pa_nil))
      (pss_cons (ps_for PassesOwn.never rfl (pi_range1 (by rfl) (B.free 46 _ rfl) (pa_cons (pv 2) pa_nil)) (pg_name (i := 5) sc_w_walk.nd rfl (.inl rfl)) (pss_cons (ps_setLc (i := 6) (own := [("_law_deed_here", 10)]) (g := gName 10) (tt := tYes) (te := (tTup (tCons (tOp (rIxA K w) (tVar 10) (tC (V.int 0))) (tCons (tCall (spOf ⟨K, ns, w⟩ sp_w_done) [] E0 (tCons (tVar 1) (tCons (tVar 10) (tCons (tVar 3) tNil)))) tNil)))) rfl sc_w_walk.nd rfl rfl (sw_true rfl rfl rfl (by decide +kernel)) (pi_tup (pe_ix (ixA hr.units) (pv 1) pe_int (fun _ _ => rfl))) (blkOk_by (own := [("_law_deed_here", 10)]) (N := nm_w_walk) (sc := defScope s_w_walk) (by decide +kernel)) (fun _ _ _ _ _ => (pg_name (i := 10) sc_w_walk.nd rfl (.inl rfl))) (fun _ _ _ _ _ => pts_nil) (fun _ _ _ _ _ => (pe_tup (pa_cons (pe_ix (ixA hr.units) (pv 10) pe_int (fun _ _ => rfl)) (pa_cons (pe_fn H_w_done (hr.mono (by omega)) (by rfl) (pa_cons (pv 1) (pa_cons (pv 10) (pa_cons (pv 3) pa_nil)))) pa_nil)))))
      (pss_cons (ps_setLc (i := 6) (own := [("_law_pair", 11)]) (g := gName 11) (tt := (tTest (tOp (rNotN) (tOp (rIxA K w) (tVar 11) (tC (V.int 1))) (tC V.non)))) (te := (tVar 11)) rfl sc_w_walk.nd rfl rfl (sw_true rfl rfl rfl (by decide +kernel)) (pi_list (pv 6)) (blkOk_by (own := [("_law_pair", 11)]) (N := nm_w_walk) (sc := defScope s_w_walk) (by decide +kernel)) (fun _ _ _ _ _ => (pg_name (i := 11) sc_w_walk.nd rfl (.inl rfl))) (fun _ _ _ _ _ => pts_one (pt_cmpR op_some (pe_ix (ixA hr.units) (pv 11) pe_int (fun _ _ => rfl)) pe_non (nomark _))) (fun _ _ _ _ _ => (pv 11)))
      (pss_cons (ps_setLc (i := 7) (own := [("_law_pair", 11)]) (g := gName 11) (tt := (tTest (tOp (rNeM K) (tOp (rIxA K w) (tVar 11) (tC (V.int 1))) (tVar 3)))) (te := (tVar 11)) rfl sc_w_walk.nd rfl rfl (sw_true rfl rfl rfl (by decide +kernel)) (pi_list (pv 6)) (blkOk_by (own := [("_law_pair", 11)]) (N := nm_w_walk) (sc := defScope s_w_walk) (by decide +kernel)) (fun _ _ _ _ _ => (pg_name (i := 11) sc_w_walk.nd rfl (.inl rfl))) (fun _ _ _ _ _ => pts_one (pt_cmpR (op_neM hr.units) (pe_ix (ixA hr.units) (pv 11) pe_int (fun _ _ => rfl)) (pv 3) (nomark _))) (fun _ _ _ _ _ => (pv 11)))
      (pss_cons (ps_set (i := 8) sc_w_walk.nd rfl (.inl rfl) (pe_fn H_w_next (hr.mono (by omega)) (by rfl) (pa_cons (pv 0) pa_nil)))
      (pss_cons (ps_if (PW.pt (pw_and (pt_cmpR (op_neM hr.units) (pv 7) (pe_lst pa_nil) (nomark _)) (pw_and1 (pt_cmpR op_gt (pe_op op_mod (pv 8) pe_int) pe_int (nomark _))))) (pss_one (ps_set (i := 6) sc_w_walk.nd rfl (.inl rfl) (pv 7))) pss_nil)
      (pss_cons (ps_if (pt_cmpR (op_eqM hr.units) (pv 6) (pe_lst pa_nil) (nomark _)) (pss_one (ps_ret (pe_tup (pa_cons (pe_callTy call_tupA (by rfl) (B.free 50 _ rfl) (by decide +kernel) (pa_cons (pv 4) pa_nil)) (pa_cons (pv 3) pa_nil))))) pss_nil)
      (pss_cons (ps_asg (pe_ix (ixA hr.units) (pv 6) (pe_op op_mod (pe_op op_fdiv (pv 8) pe_int) (pe_callB call_lenA (by rfl) (B.free 43 _ rfl) PySem.boot_len (pa_cons (pv 6) pa_nil))) (fun _ _ => rfl)) (pg_tup (n := 2) rfl (pgs_cons (pg_name (i := 9) sc_w_walk.nd rfl (.inl rfl)) (pgs_cons (pg_name (i := 3) sc_w_walk.nd rfl (.inr rfl)) pgs_nil))))
      (pss_one (ps_expr (pe_bm PySem.F.plainAttrs_list PySem.F.slot_list_append PySem.F.type_list_append mt_append (pv 4) (pa_cons (pv 9) pa_nil))))))))))))
      (pss_one (ps_ret (pe_tup (pa_cons (pe_callTy call_tupA (by rfl) (B.free 50 _ rfl) (by decide +kernel) (pa_cons (pv 4) pa_nil)) (pa_cons (pv 3) pa_nil)))))))), fun rs n Q h => ?walk⟩), B.glo 27 _ rfl, F.kp, .nil, F.bindsN fun _ _ _ _ _ _ us hl => match us, hl with | [_, _, _], _ => rfl⟩
  case len =>
    obtain ⟨_, _, rfl, _⟩ := h
    rfl
  case walk =>
    obtain ⟨W, most, rfl, hW, hm0, hm1, h0, h1, hQ⟩ := h
    show SW _ _ [.w, .d W.enc, .d (.int most), .u, .u, .u, .u, .u, .u, .u, .u, .u] n _
    dsimp only [cxOf]
    walk_at "go"
    refine ⟨hm0, by omega, loop_inv (fun ds G n' => ∃ (s : Sta) (ls : List PyData) (a5 a6 a7 a8 a9 : Rs), G = [.w, .d W.enc, .d (.int most), .d s.enc, .l ls, a5, a6, a7, a8, a9, .u, .u] ∧ ls.length + ds.length ≤ 12 ∧ (∀ l ∈ ls, ∃ d ∈ W.deeds, d.lab = l) ∧ s.am.length = W.counts.length ∧ n ≤ n' ∧ n' ≤ n + ls.length ∧ ∀ x ∈ ds, ∃ z : Int, x = .int z) ?_ ?_ _ _ _ ⟨W.start, [], _, _, _, _, _, rfl, by rw [rangeD_len]; show 0 + most.toNat ≤ 12; omega, (fun l hl => by cases hl), hW.start, Int.le_refl _, (by show n ≤ n + ((0 : Nat) : Int); omega), fun x hx => ?_⟩⟩
    · rintro G n' ⟨s, ls, a5, a6, a7, a8, a9, rfl, hl, hls, hs, hn1, hn2, _⟩
      walk_at "go"
      exact hQ ls s n' (by rw [List.length_nil] at hl; omega) hls hs hn1 (by omega)
    · rintro x ds G n' ⟨s, ls, a5, a6, a7, a8, a9, rfl, hl, hls, hs, hn1, hn2, hx⟩
      obtain ⟨z, rfl⟩ := hx x (List.mem_cons_self ..)
      rw [List.length_cons] at hl
      have hx2 : ∀ x ∈ ds, ∃ z : Int, x = .int z := fun x h => hx x (List.mem_cons_of_mem _ h)
      have hdl := hW.dds
      walk_at "put1"
      walk_at "go"
      refine ⟨by rw [List.length_map]; omega, comp_mapE Deed.enc (fun d => .tuple [d.lab, staD (done W.counts d s)]) _ _ (fun d hd => ?_) ?_⟩
      · walk_at "put1"
        walk_at "go"
        refine ⟨W, d, s, rfl, hs, hW.deeds d hd, rfl, ?_⟩
        walk_at "go"
      · rw [List.nil_append]
        walk_at "go"
        refine ⟨by rw [List.length_map]; omega, comp_fmE (fun d => .tuple [d.lab, staD (done W.counts d s)]) (fun d => (done W.counts d s).isSome) (fun d => .tuple [d.lab, staD (done W.counts d s)]) _ _ (fun d hd => ?_) ?_⟩
        · walk_at "put1"
          walk_at "go"
          rw [none_sta, Bool.not_not]
          exact ⟨rfl, fun _ => by walk_at "go"⟩
        · rw [List.nil_append]
          walk_at "go"
          have hfl := List.length_filter_le (fun d => (done W.counts d s).isSome) W.deeds
          refine ⟨by rw [List.length_map]; omega, comp_fmE (fun d => .tuple [d.lab, staD (done W.counts d s)]) (fun d => !PyData.eqv (staD (done W.counts d s)) s.enc) (fun d => .tuple [d.lab, staD (done W.counts d s)]) _ _ (fun d hd => ?_) ?_⟩
          · walk_at "put1"
            walk_at "go"
            refine ow_neD (Nat.le_trans (Nat.min_le_right _ _) (Nat.le_trans (sta_depth s) (by decide))) ?_
            walk_at "go"
            exact fun _ => by walk_at "go"
          · rw [List.nil_append]
            walk_at "go"
            refine ⟨rfl, by omega, by omega, fun v hv => ⟨rfl, ?_⟩⟩
            walk_at "go"
            refine br_2 (fun b1 => ?_) (fun b1 => ?_)
            · walk_at "go"
              refine br_2 (fun b2 => ?_) (fun b2 => ?_)
              · walk_at "go"
                have hsel : ∀ d ∈ (List.filter (fun d => !PyData.eqv (staD (done W.counts d s)) s.enc) (List.filter (fun d => (done W.counts d s).isSome) W.deeds)), d ∈ W.deeds ∧ (done W.counts d s).isSome = true := fun d h => List.mem_filter.1 (List.mem_filter.1 h).1
                refine br_2 (fun c1 => ?_) (fun c1 => ?_)
                · walk_at "go"
                  exact hQ ls s _ (by omega) hls hs (by omega) (by omega)
                · have hlen : 0 < (List.map (fun d => PyData.tuple [d.lab, staD (done W.counts d s)]) (List.filter (fun d => !PyData.eqv (staD (done W.counts d s)) s.enc) (List.filter (fun d => (done W.counts d s).isSome) W.deeds))).length := by
                    cases e : (List.map (fun d => PyData.tuple [d.lab, staD (done W.counts d s)]) (List.filter (fun d => !PyData.eqv (staD (done W.counts d s)) s.enc) (List.filter (fun d => (done W.counts d s).isSome) W.deeds))) with
                    | nil => rw [e] at c1; cases c1
                    | cons _ _ => exact Nat.succ_pos _
                  walk_at "go"
                  obtain ⟨x, ex, hx3⟩ := atI_mem (xs := List.map (fun d => PyData.tuple [d.lab, staD (done W.counts d s)]) (List.filter (fun d => !PyData.eqv (staD (done W.counts d s)) s.enc) (List.filter (fun d => (done W.counts d s).isSome) W.deeds))) (i := v / 5 % ((List.map (fun d => PyData.tuple [d.lab, staD (done W.counts d s)]) (List.filter (fun d => !PyData.eqv (staD (done W.counts d s)) s.enc) (List.filter (fun d => (done W.counts d s).isSome) W.deeds))).length : Nat)) (Int.emod_nonneg _ (by omega)) (Int.emod_lt_of_pos _ (by omega))
                  refine ow_ixL (.inr rfl) ex ?_
                  obtain ⟨d, hd, rfl⟩ := List.mem_map.1 hx3
                  obtain ⟨hd1, hd2⟩ := hsel d hd
                  cases ed : done W.counts d s with
                  | none => rw [ed] at hd2; cases hd2
                  | some s' =>
                    walk_at "go"
                    refine sw_append rfl (by omega) ?_
                    walk_at "go"
                    refine ⟨s', ls ++ [d.lab], _, _, _, _, _, rfl, by rw [List.length_append]; show ls.length + 1 + _ ≤ 12; omega, fun l hl3 => ?_, (done_some ed).trans hs, by omega, by rw [List.length_append]; show _ ≤ n + ((ls.length + 1 : Nat) : Int); omega, hx2⟩
                    rcases List.mem_append.1 hl3 with hl3 | hl3
                    · exact hls l hl3
                    · rw [List.mem_singleton.1 hl3]
                      exact ⟨d, hd1, rfl⟩
              · walk_at "go"
                have hsel : ∀ d ∈ (List.filter (fun d => (done W.counts d s).isSome) W.deeds), d ∈ W.deeds ∧ (done W.counts d s).isSome = true := fun d h => List.mem_filter.1 h
                refine br_2 (fun c1 => ?_) (fun c1 => ?_)
                · walk_at "go"
                  exact hQ ls s _ (by omega) hls hs (by omega) (by omega)
                · have hlen : 0 < (List.map (fun d => PyData.tuple [d.lab, staD (done W.counts d s)]) (List.filter (fun d => (done W.counts d s).isSome) W.deeds)).length := by
                    cases e : (List.map (fun d => PyData.tuple [d.lab, staD (done W.counts d s)]) (List.filter (fun d => (done W.counts d s).isSome) W.deeds)) with
                    | nil => rw [e] at c1; cases c1
                    | cons _ _ => exact Nat.succ_pos _
                  walk_at "go"
                  obtain ⟨x, ex, hx3⟩ := atI_mem (xs := List.map (fun d => PyData.tuple [d.lab, staD (done W.counts d s)]) (List.filter (fun d => (done W.counts d s).isSome) W.deeds)) (i := v / 5 % ((List.map (fun d => PyData.tuple [d.lab, staD (done W.counts d s)]) (List.filter (fun d => (done W.counts d s).isSome) W.deeds)).length : Nat)) (Int.emod_nonneg _ (by omega)) (Int.emod_lt_of_pos _ (by omega))
                  refine ow_ixL (.inr rfl) ex ?_
                  obtain ⟨d, hd, rfl⟩ := List.mem_map.1 hx3
                  obtain ⟨hd1, hd2⟩ := hsel d hd
                  cases ed : done W.counts d s with
                  | none => rw [ed] at hd2; cases hd2
                  | some s' =>
                    walk_at "go"
                    refine sw_append rfl (by omega) ?_
                    walk_at "go"
                    refine ⟨s', ls ++ [d.lab], _, _, _, _, _, rfl, by rw [List.length_append]; show ls.length + 1 + _ ≤ 12; omega, fun l hl3 => ?_, (done_some ed).trans hs, by omega, by rw [List.length_append]; show _ ≤ n + ((ls.length + 1 : Nat) : Int); omega, hx2⟩
                    rcases List.mem_append.1 hl3 with hl3 | hl3
                    · exact hls l hl3
                    · rw [List.mem_singleton.1 hl3]
                      exact ⟨d, hd1, rfl⟩
            · walk_at "go"
              have hsel : ∀ d ∈ (List.filter (fun d => (done W.counts d s).isSome) W.deeds), d ∈ W.deeds ∧ (done W.counts d s).isSome = true := fun d h => List.mem_filter.1 h
              refine br_2 (fun c1 => ?_) (fun c1 => ?_)
              · walk_at "go"
                exact hQ ls s _ (by omega) hls hs (by omega) (by omega)
              · have hlen : 0 < (List.map (fun d => PyData.tuple [d.lab, staD (done W.counts d s)]) (List.filter (fun d => (done W.counts d s).isSome) W.deeds)).length := by
                  cases e : (List.map (fun d => PyData.tuple [d.lab, staD (done W.counts d s)]) (List.filter (fun d => (done W.counts d s).isSome) W.deeds)) with
                  | nil => rw [e] at c1; cases c1
                  | cons _ _ => exact Nat.succ_pos _
                walk_at "go"
                obtain ⟨x, ex, hx3⟩ := atI_mem (xs := List.map (fun d => PyData.tuple [d.lab, staD (done W.counts d s)]) (List.filter (fun d => (done W.counts d s).isSome) W.deeds)) (i := v / 5 % ((List.map (fun d => PyData.tuple [d.lab, staD (done W.counts d s)]) (List.filter (fun d => (done W.counts d s).isSome) W.deeds)).length : Nat)) (Int.emod_nonneg _ (by omega)) (Int.emod_lt_of_pos _ (by omega))
                refine ow_ixL (.inr rfl) ex ?_
                obtain ⟨d, hd, rfl⟩ := List.mem_map.1 hx3
                obtain ⟨hd1, hd2⟩ := hsel d hd
                cases ed : done W.counts d s with
                | none => rw [ed] at hd2; cases hd2
                | some s' =>
                  walk_at "go"
                  refine sw_append rfl (by omega) ?_
                  walk_at "go"
                  refine ⟨s', ls ++ [d.lab], _, _, _, _, _, rfl, by rw [List.length_append]; show ls.length + 1 + _ ≤ 12; omega, fun l hl3 => ?_, (done_some ed).trans hs, by omega, by rw [List.length_append]; show _ ≤ n + ((ls.length + 1 : Nat) : Int); omega, hx2⟩
                  rcases List.mem_append.1 hl3 with hl3 | hl3
                  · exact hls l hl3
                  · rw [List.mem_singleton.1 hl3]
                    exact ⟨d, hd1, rfl⟩
    · obtain ⟨j, hj⟩ := List.mem_iff_getElem?.1 hx
      exact ⟨_, (rangeD_get hj).2⟩
end
end Dd
set_option Elab.async false
set_option linter.all false
set_option maxRecDepth 100000
set_option autoImplicit false
set_option maxHeartbeats 1000000
/-! Pm: a world. -/
namespace Dd
open PySem PySem.Spec PyProof.Rows L2 Dl
local macro_rules | `(tactic| walk_at "dx.var") => `(tactic| ((with_reducible show EW _ (tVar _) _ _ _); first
  | (refine ew_varD rfl ?_) | (refine ew_varR rfl ?_) | (refine ew_varL rfl ?_) | (refine ew_varW rfl ?_) | (refine ew_varS rfl ?_) | (refine ew_varT rfl ?_)))
local macro_rules | `(tactic| walk_at "dx.ew") => `(tactic| first
  | (walk_at "dx.var")
  | (with_reducible refine ew_int ?_) | ((with_reducible refine ew_str ?hh ?_); (case hh => decide +kernel)) | (with_reducible refine ew_bl ?_) | (with_reducible refine ew_non ?_)
  | ((with_reducible show EW _ (tOp (rIxA _ _) (tVar _) (tC (.int 0))) _ _ _); refine ew_w0 rfl ?_) | ((with_reducible show EW _ (tOp (rIxA _ _) (tVar _) (tC (.int 1))) _ _ _); refine ew_w1 rfl ?_)
  | (with_reducible refine ew_op ?_) | (with_reducible refine ew_un ?_) | (with_reducible refine ew_tupE ?_) | (with_reducible refine ew_lstE ?_) | (with_reducible refine ew_isi ?_) | (with_reducible refine ew_cb ?_)
  | (with_reducible refine ew_andV ?_) | (with_reducible refine ew_orV ?_) | (with_reducible refine ew_notV ?_) | ((with_reducible refine ew_callWv ?hw ?_); (case hw => exact rfl)) | (with_reducible refine ew_call ?_) | (with_reducible refine ew_callD ?_) | ((with_reducible refine ew_lc1 ?hq ?_); (case hq => exact rfl)) | ((with_reducible refine ew_lc2 ?hq ?hq2 ?_); (case hq => exact rfl); (case hq2 => exact rfl)) | (with_reducible refine ew_if ?_) | (with_reducible refine ew_chain ?_) | (with_reducible refine ew_sl ?_) | (with_reducible refine ew_bmS ?_) | (with_reducible refine ew_back ?_))
local macro_rules | `(tactic| walk_at "dx.ow") => `(tactic| first
  | (with_reducible refine ow_addI ?_) | (with_reducible refine ow_eqI ?_) | (with_reducible refine ow_eqS ?_) | (with_reducible refine ow_neI ?_) | (with_reducible refine ow_neS ?_) | (with_reducible refine ow_neN (.inr rfl) (.inl rfl) ?_) | (with_reducible refine ow_eqN (.inr rfl) (.inl rfl) ?_) | ((with_reducible refine ow_inT ?hmm ?_); (case hmm => exact Nat.le_of_ble_eq_true rfl)) | (with_reducible refine ow_isN ?_) | (with_reducible refine ow_noN ?_)
  | (with_reducible refine ow_intB ?_) | (with_reducible refine ow_int ?_) | ((with_reducible refine ow_intC ?hc ?_); (case hc => first | decide | omega | exact ⟨by decide, by decide⟩ | exact ⟨by omega, by omega⟩ | exact ⟨by decide, by decide, by decide⟩ | exact ⟨by omega, by omega, by decide⟩))
  | ((with_reducible refine ow_mulI ?hcm ?_); (case hcm => first | exact Or.inl ⟨by decide, by decide⟩ | exact Or.inr ⟨by decide, by decide⟩ | exact Or.inl ⟨by omega, by omega⟩ | exact Or.inr ⟨by omega, by omega⟩))
  | ((with_reducible show OW _ (rIxA _ _) (Rs.d _) (Rs.d _) _); refine ow_ixT rfl ?_))
local macro_rules | `(tactic| walk_at "dx.sw") => `(tactic| first
  | (walk_at "dx.for") | (with_reducible refine sw_seq ?_) | (with_reducible refine sw_next ?_) | ((with_reducible show SW _ (tDrop (tCall _ _ _ _)) _ _ _); refine sw_expr ?_) | (with_reducible refine sw_cont ?_) | (with_reducible refine sw_ret ?_) | (with_reducible refine sw_retN ?_) | (with_reducible refine sw_if ?_)
  | ((with_reducible show SW _ (tAsg (tBM0 _ _ rPop (tVar _)) _) _ _ _); refine sw_pop2 (Nat.le_of_ble_eq_true rfl) (Nat.le_of_ble_eq_true rfl) rfl ?_; dsimp only [List.set])
  | ((with_reducible show SW _ (tDrop (tBM _ _ rExtend _ _)) _ _ _); refine sw_extend rfl ?_) | ((with_reducible show SW _ (tDrop (tBM0 _ _ rReverse _)) _ _ _); refine sw_reverse rfl ?_)
  | ((with_reducible show SW _ (tAsg _ (gSub (tVar _) _ _)) _ _ _); first | (refine sw_draw rfl ?_) | (refine sw_store rfl ?_))
  | ((with_reducible refine sw_aliasL (xs := ?xs) ?hi ?hal ?_); (case hal => exact rfl); (case hi => exact Nat.le_of_ble_eq_true rfl); dsimp only [List.set])
  | ((with_reducible refine sw_set ?hi ?_); (case hi => exact Nat.le_of_ble_eq_true rfl))
  | ((with_reducible refine sw_par ?hi ?hj ?_); (case hi => exact Nat.le_of_ble_eq_true rfl); (case hj => exact Nat.le_of_ble_eq_true rfl); dsimp only [List.set])
  | ((with_reducible refine sw_asg2 ?hi ?hj ?_); (case hi => exact Nat.le_of_ble_eq_true rfl); (case hj => exact Nat.le_of_ble_eq_true rfl); dsimp only [List.set])
  | ((with_reducible refine sw_asg3 ?hi ?hj ?hk ?_); (case hi => exact Nat.le_of_ble_eq_true rfl); (case hj => exact Nat.le_of_ble_eq_true rfl); (case hk => exact Nat.le_of_ble_eq_true rfl); dsimp only [List.set])
  | ((with_reducible refine sw_aug (a := ?aa) ?hi ?_); (case hi => exact rfl); dsimp only [List.set]))
local macro_rules | `(tactic| walk_at "dx.for") => `(tactic| first
  | (with_reducible refine sw_for1 ?_) | (with_reducible refine sw_for2 ?_))
local macro_rules | `(tactic| walk_at "dx.misc") => `(tactic| first
  | (with_reducible refine ea_cons ?_) | (with_reducible refine ea_nil ?_)
  | (with_reducible refine tw_test ?_) | (with_reducible refine tw_B ?_) | (with_reducible refine tw_and ?_) | (with_reducible refine tw_or ?_) | (with_reducible refine tw_not ?_) | (with_reducible refine tw_yes ?_)
  | (with_reducible refine wi_tup ?_) | (with_reducible refine wi_enumT ?_) | (with_reducible refine wi_zipT ?_) | (with_reducible refine wi_rev ?_) | (with_reducible refine wi_range ?_) | (refine wi_enum rfl ?_) | (refine wi_var rfl ?_) | ((with_reducible show WI _ (iList _ (tCall _ _ _ _)) _ _ _); refine wi_new ?_) | (with_reducible refine uw_int ?_) | (with_reducible refine op_no ?_) | (with_reducible refine op_int ?_)
  | ((with_reducible show Br (decide ((_ : Int) < _)) _ _); first | (refine br_t rfl ?_) | (refine br_f rfl ?_)) | ((with_reducible show Br (decide ((_ : Int) ≤ _)) _ _); first | (refine br_t rfl ?_) | (refine br_f rfl ?_)) | ((with_reducible show Br (decide ((_ : Int) = _)) _ _); first | (refine br_t rfl ?_) | (refine br_f rfl ?_)) | ((with_reducible show Br (!decide ((_ : Int) = _)) _ _); first | (refine br_t rfl ?_) | (refine br_f rfl ?_))
  | ((with_reducible show Br (isNone _) _ _); first | (refine br_t rfl ?_) | (refine br_f rfl ?_)) | ((with_reducible show Br (!isNone _) _ _); first | (refine br_t rfl ?_) | (refine br_f rfl ?_))
  | ((with_reducible show Br true _ _); refine br_t rfl ?_) | ((with_reducible show Br false _ _); refine br_f rfl ?_) | (refine br_t (by decide +kernel) ?_) | (refine br_f (by decide +kernel) ?_)
  | (with_reducible refine cw_lenT ?_) | (with_reducible refine cw_listT ?_) | (with_reducible refine cw_tupL (.inr rfl) ?_) | (with_reducible refine cw_tupL (.inl rfl) ?_) | (with_reducible refine cw_lenL (.inr rfl) ?_) | (with_reducible refine cw_lenL (.inl rfl) ?_) | (with_reducible refine cw_lenW ?_)
  | (refine ⟨_, _, rfl, kit_ii, ?_⟩) | (refine ⟨_, _, rfl, kit_ib, ?_⟩) | (refine ⟨_, _, rfl, kit_tt, ?_⟩) | (refine ⟨_, _, rfl, kit_ss, ?_⟩)
  | (with_reducible refine ⟨_, rfl, ?_⟩) | (refine ⟨_, rfl, Nat.le_of_ble_eq_true rfl, ?_⟩) | (with_reducible refine ⟨_, _, rfl, ?_⟩) | (with_reducible refine ⟨_, _, _, rfl, ?_⟩) | ((with_reducible refine ⟨(fun _ z => nomatch z), ?_⟩); (try dsimp only [List.set])) | (refine ⟨_, _, rfl, by decide +kernel, ?_⟩) | (refine ⟨Nat.le_of_ble_eq_true rfl, ?_⟩) | (with_reducible refine ⟨rfl, ?_⟩) | dsimp only)
local macro_rules | `(tactic| walk_at "dx") => `(tactic| first
  | ((with_reducible refine ew_demoteL (xs := ?xs) ?hdm ?_); (case hdm => exact rfl); dsimp only [List.set]) | ((with_reducible refine sw_demoteF (xs := ?xs) ?hdm ?_); (case hdm => exact rfl); dsimp only [List.set]) | ((with_reducible refine sw_demoteE (xs := ?xs) ?hdm ?_); (case hdm => exact rfl); dsimp only [List.set])
  | ((with_reducible show EW _ _ _ _ _); walk_at "dx.ew") | ((with_reducible show SW _ _ _ _ _); walk_at "dx.sw") | ((with_reducible show OW _ _ _ _ _); walk_at "dx.ow") | (walk_at "dx.misc"))
local macro_rules | `(tactic| walk_at "go") => `(tactic| repeat walk_at "dx")
local macro_rules | `(tactic| walk_at "put1") => `(tactic| (refine ⟨Nat.le_of_ble_eq_true rfl, _, rfl, ?_⟩; dsimp only [wipeG, List.map, List.set]))
local macro_rules | `(tactic| walk_at "put2") => `(tactic| (refine ⟨⟨Nat.le_of_ble_eq_true rfl, Nat.le_of_ble_eq_true rfl⟩, _, rfl, ?_⟩; dsimp only [wipeG, List.map, List.set]))
def labOf (s : Str) (j : Nat) : PyData := .tuple [.str s, .tuple (List.replicate j (.str s))]
def LabSm (l : PyData) : Prop := ∃ s j, l = labOf s j ∧ s.length ≤ 20 ∧ j ≤ 2
structure WdSm (W : Wd) : Prop where
  labs : ∀ d ∈ W.deeds, LabSm d.lab
  needs : ∀ d ∈ W.deeds, d.need.sm
  wish : W.wish.sm
  cnts : ∀ c ∈ W.counts, CntOk c
theorem lab_ok (s : Str) {j : Nat} (hj : j ≤ 2) : LabOk (labOf s j) := by
  have h : j = 0 ∨ j = 1 ∨ j = 2 := by omega
  rcases h with rfl | rfl | rfl <;> exact ⟨⟨_, rfl⟩, rfl, by show _ ≤ 8; simp [labOf, PyData.depth, PyData.depthAll, List.replicate]⟩
def sp_w_world : DSpec := fun rs n Q => rs = [.s, .d (.int 12)] ∧ ∀ (W : Wd) (ls : List PyData), WdOk W → WdSm W → 1 ≤ W.atoms.length → 1 ≤ W.deeds.length → ls.length ≤ 12 → (∀ l ∈ ls, ∃ d ∈ W.deeds, d.lab = l) → Q (.d (.tuple [W.enc, .tuple ls])) n
theorem int_atP {T : Int → Prop} {xs : List PyData} {i : Int} (h : ∀ x ∈ xs, ∃ z, x = .int z ∧ T z) (h0 : 0 ≤ i) (h1 : i < xs.length) : ∃ z, atI xs i = some (.int z) ∧ T z := by
  obtain ⟨d, e, hd⟩ := atI_mem h0 h1
  obtain ⟨z, rfl, hz⟩ := h d hd
  exact ⟨z, e, hz⟩
theorem str_at {ss : List Str} {i : Int} (h0 : 0 ≤ i) (h1 : i < ss.length) : ∃ s, atI (ss.map PyData.str) i = some (.str s) ∧ s ∈ ss := by
  obtain ⟨d, e, hd⟩ := atI_mem (xs := ss.map PyData.str) h0 (by rw [List.length_map]; exact h1)
  obtain ⟨s, hs, rfl⟩ := List.mem_map.1 hd
  exact ⟨s, e, hs⟩
theorem amts_paired : ∀ {cs : List Cnt} {xs : List PyData}, Paired (fun d x => ∃ (c : Cnt) (z : Int), d = c.enc ∧ x = .int z ∧ c.lo ≤ z ∧ z ≤ c.hi) (cs.map Cnt.enc) xs →
    ∃ zs : List Int, xs = zs.map PyData.int ∧ zs.length = cs.length ∧ ∀ i, i < cs.length → (cnt cs i).lo ≤ amt zs i ∧ amt zs i ≤ (cnt cs i).hi
  | [], _, .nil => ⟨[], rfl, rfl, fun i h => absurd h (Nat.not_lt_zero _)⟩
  | c :: cs, _, .cons ⟨c', z, e1, e2, h1, h2⟩ r => by
    obtain ⟨zs, e3, hl, h⟩ := amts_paired r
    subst e2 e3
    have ec : c.lo = c'.lo ∧ c.hi = c'.hi := by
      simp only [Cnt.enc, PyData.tuple.injEq, List.cons.injEq, PyData.int.injEq] at e1
      exact ⟨e1.2.1, e1.2.2.1⟩
    refine ⟨z :: zs, rfl, by rw [List.length_cons, List.length_cons, hl], fun i hi => ?_⟩
    cases i with
    | zero =>
      show c.lo ≤ z ∧ z ≤ c.hi
      rw [ec.1, ec.2]
      exact ⟨h1, h2⟩
    | succ i => exact h i (Nat.lt_of_succ_lt_succ hi)
section
variable {P : Program} {w : World} {K : PySem.W.Frag} {mg : Str → Option Value} {base : Heap} {ns : List Int} {k m : Nat}
def nm_w_world : List Str := ["_law_script", "_law_most", "_law_draw", "_law_names_here", "_law_facts", "_law_counts", "_law_k", "_law_number", "_law_low", "_law_high", "_law_atoms", "_law_deeds_here", "_law_label", "_law_amounts", "_law_start", "_law_plain", "_law_plan", "_law_state", "_law_wish", "_law_turn", "_law_one", "_law_count"]
theorem sc_w_world : FnScope nm_w_world ["_law_script", "_law_most"] (defScope s_w_world) := ⟨rfl, rfl, rfl, by decide +kernel, rfl, by decide +kernel, by decide +kernel⟩
/- slots of w_world: 0 _law_script, 1 _law_most, 2 _law_draw, 3 _law_names_here, 4 _law_facts, 5 _law_counts, 6 _law_k, 7 _law_number, 8 _law_low, 9 _law_high, 10 _law_atoms, 11 _law_deeds_here, 12 _law_label, 13 _law_amounts, 14 _law_start, 15 _law_plain, 16 _law_plan, 17 _law_state, 18 _law_wish, 19 _law_turn, 20 _law_one, 21 _law_count -/
theorem ok_w_world (B : Bs K mg) (H_w_literal : Fn P w K mg base ns "_law_literal" 9 ["_law_draw", "_law_facts", "_law_counts", "_law_state"] [] sp_w_literal) (H_w_condition : Fn P w K mg base ns "_law_condition" 12 ["_law_draw", "_law_facts", "_law_counts", "_law_deep"] [] (sp_w_condition 3)) (H_w_walk : Fn P w K mg base ns "_law_walk" 10 ["_law_draw", "_law_plain", "_law_most"] [] sp_w_walk) (H_w_next : Fn P w K mg base ns "_law_next" 2 ["_law_draw"] [] sp_w_next) (H_w_bits : Fn P w K mg base ns "_law_bits" 2 ["_law_number", "_law_facts", "_law_many"] [] sp_w_bits) (H_w_deed : Fn P w K mg base ns "_law_deed" 13 ["_law_draw", "_law_label", "_law_facts", "_law_counts"] [] sp_w_deed) (H_w_names : Fn P w K mg base ns "_law_names" 2 ["_law_number"] [] sp_w_names) (H_w_cell : Fn P w K mg base ns "_law_cell" 1 ["_law_script", "_law_k"] [] sp_w_cell) : Fn P w K mg base ns "_law_world" (13 + 1) ["_law_script", "_law_most"] [] sp_w_world := by
  obtain ⟨fd, F⟩ := B.says.def_ 28 (d := d_w_world) rfl
  refine ⟨_, fd, _, okD (ns := ns) F sc_w_world (fun rs n Q h => ?len) (fun cdv A outer s H E hr => ⟨_, PSs.nox (pss_cons (ps_set (i := 2) sc_w_world.nd rfl (.inr rfl) (pe_lst (pa_cons (pv 0) (pa_cons pe_int pa_nil))))
      (pss_cons (ps_set (i := 3) sc_w_world.nd rfl (.inr rfl) (pe_fn H_w_names (hr.mono (by omega)) (by rfl) (pa_cons (pe_fn H_w_cell (hr.mono (by omega)) (by rfl) (pa_cons (pv 0) (pa_cons pe_int pa_nil))) pa_nil)))
      (pss_cons (ps_set (i := 4) sc_w_world.nd rfl (.inl rfl) (pe_op op_plus pe_int (pe_op op_mod (pe_fn H_w_next (hr.mono (by omega)) (by rfl) (pa_cons (pv 2) pa_nil)) pe_int)))
      (pss_cons (ps_set (i := 5) sc_w_world.nd rfl (.inl rfl) (pe_lst pa_nil))
      (pss_cons (ps_for PassesOwn.never rfl (pi_range1 (by rfl) (B.free 46 _ rfl) (pa_cons (pe_op op_mod (pe_fn H_w_next (hr.mono (by omega)) (by rfl) (pa_cons (pv 2) pa_nil)) pe_int) pa_nil)) (pg_name (i := 6) sc_w_world.nd rfl (.inl rfl)) (pss_cons (ps_set (i := 7) sc_w_world.nd rfl (.inl rfl) (pe_fn H_w_next (hr.mono (by omega)) (by rfl) (pa_cons (pv 2) pa_nil)))
      (pss_cons (ps_set (i := 8) sc_w_world.nd rfl (.inl rfl) (pe_ix (ixA hr.units) (pe_lst (pa_cons pe_int (pa_cons pe_int (pa_cons (pe_un un_neg pe_int) (pa_cons (pe_op op_sub (pv 7) (pe_op op_pow pe_int pe_int)) pa_nil))))) (pe_op op_mod (pv 7) pe_int) (fun _ _ => rfl)))
      (pss_cons (ps_set (i := 9) sc_w_world.nd rfl (.inl rfl) (pe_op op_plus (pv 8) (pe_ix (ixA hr.units) (pe_lst (pa_cons pe_int (pa_cons pe_int (pa_cons pe_int (pa_cons (pe_op op_plus (pe_op op_pow pe_int pe_int) pe_int) pa_nil))))) (pe_op op_mod (pe_op op_fdiv (pv 7) pe_int) pe_int) (fun _ _ => rfl))))
      (pss_one (ps_expr (pe_bm PySem.F.plainAttrs_list PySem.F.slot_list_append PySem.F.type_list_append mt_append (pv 5) (pa_cons (pe_tup (pa_cons (pe_tup (pa_cons (pe_ix (ixA hr.units) (pv 3) (pe_op op_sub pe_int (pv 6)) (fun _ _ => rfl)) (pa_cons (pe_op op_times (pe_tup (pa_cons (pe_ix (ixA hr.units) (pv 3) pe_int (fun _ _ => rfl)) pa_nil)) (pe_op op_mod (pe_op op_fdiv (pv 7) pe_int) pe_int)) pa_nil))) (pa_cons (pv 8) (pa_cons (pe_callB (call_min2A rfl) (by rfl) (B.free 45 _ rfl) (by decide +kernel) (pa_cons (pv 9) (pa_cons (pe_op op_pow pe_int pe_int) pa_nil))) pa_nil)))) pa_nil))))))))
      (pss_cons (ps_setLc (i := 10) (own := [("_law_k", 6)]) (g := gName 6) (tt := tYes) (te := (tTup (tCons (tOp (rIxA K w) (tVar 3) (tOp (rI CDiv fun i j => V.int (i / j)) (tVar 6) (tC (V.int 2)))) (tCons (tTup (tCons (tOp (rIxA K w) (tVar 3) (tOp (rI0 fun i j => V.int (i - j)) (tC (V.int 15)) (tOp (rI (fun _ j => 0 < j) fun i j => V.int (i % j)) (tVar 6) (tC (V.int 2))))) tNil)) tNil)))) rfl sc_w_world.nd rfl rfl (sw_true rfl rfl rfl (by decide +kernel)) (pi_range1 (by rfl) (B.free 46 _ rfl) (pa_cons (pv 4) pa_nil)) (blkOk_by (own := [("_law_k", 6)]) (N := nm_w_world) (sc := defScope s_w_world) (by decide +kernel)) (fun _ _ _ _ _ => (pg_name (i := 6) sc_w_world.nd rfl (.inl rfl))) (fun _ _ _ _ _ => pts_nil) (fun _ _ _ _ _ => (pe_tup (pa_cons (pe_ix (ixA hr.units) (pv 3) (pe_op op_fdiv (pv 6) pe_int) (fun _ _ => rfl)) (pa_cons (pe_tup (pa_cons (pe_ix (ixA hr.units) (pv 3) (pe_op op_sub pe_int (pe_op op_mod (pv 6) pe_int)) (fun _ _ => rfl)) pa_nil)) pa_nil)))))
      (pss_cons (ps_set (i := 11) sc_w_world.nd rfl (.inl rfl) (pe_lst pa_nil))
      (pss_cons (ps_for PassesOwn.never rfl (pi_range1 (by rfl) (B.free 46 _ rfl) (pa_cons (pe_op op_plus pe_int (pe_op op_mod (pe_fn H_w_next (hr.mono (by omega)) (by rfl) (pa_cons (pv 2) pa_nil)) pe_int)) pa_nil)) (pg_name (i := 6) sc_w_world.nd rfl (.inl rfl)) (pss_cons (ps_set (i := 12) sc_w_world.nd rfl (.inl rfl) (pe_tup (pa_cons (pe_ix (ixA hr.units) (pv 3) (pv 6) (fun _ _ => rfl)) (pa_cons (pe_op op_times (pe_tup (pa_cons (pe_ix (ixA hr.units) (pv 3) (pv 6) (fun _ _ => rfl)) pa_nil)) (pe_op op_mod (pv 6) pe_int)) pa_nil))))
      (pss_one (ps_expr (pe_bm PySem.F.plainAttrs_list PySem.F.slot_list_append PySem.F.type_list_append mt_append (pv 11) (pa_cons (pe_fn H_w_deed (hr.mono (by omega)) (by rfl) (pa_cons (pv 2) (pa_cons (pv 12) (pa_cons (pv 4) (pa_cons (pv 5) pa_nil))))) pa_nil))))))
      (pss_cons (ps_setLc (i := 13) (own := [("_law_count", 21)]) (g := gName 21) (tt := tYes) (te := (tOp (rPlus K) (tOp (rIxA K w) (tVar 21) (tC (V.int 1))) (tOp (rI (fun _ j => 0 < j) fun i j => V.int (i % j)) (tCall (spOf ⟨K, ns, w⟩ sp_w_next) [] E0 (tCons (tVar 2) tNil)) (tOp (rPlus K) (tOp (rI0 fun i j => V.int (i - j)) (tOp (rIxA K w) (tVar 21) (tC (V.int 2))) (tOp (rIxA K w) (tVar 21) (tC (V.int 1)))) (tC (V.int 1)))))) rfl sc_w_world.nd rfl rfl (sw_true rfl rfl rfl (by decide +kernel)) (pi_list (pv 5)) (blkOk_by (own := [("_law_count", 21)]) (N := nm_w_world) (sc := defScope s_w_world) (by decide +kernel)) (fun _ _ _ _ _ => (pg_name (i := 21) sc_w_world.nd rfl (.inl rfl))) (fun _ _ _ _ _ => pts_nil) (fun _ _ _ _ _ => (pe_op op_plus (pe_ix (ixA hr.units) (pv 21) pe_int (fun _ _ => rfl)) (pe_op op_mod (pe_fn H_w_next (hr.mono (by omega)) (by rfl) (pa_cons (pv 2) pa_nil)) (pe_op op_plus (pe_op op_sub (pe_ix (ixA hr.units) (pv 21) pe_int (fun _ _ => rfl)) (pe_ix (ixA hr.units) (pv 21) pe_int (fun _ _ => rfl))) pe_int)))))
      (pss_cons (ps_set (i := 14) sc_w_world.nd rfl (.inl rfl) (pe_tup (pa_cons (pe_fn H_w_bits (hr.mono (by omega)) (by rfl) (pa_cons (pe_fn H_w_next (hr.mono (by omega)) (by rfl) (pa_cons (pv 2) pa_nil)) (pa_cons (pv 4) (pa_cons pe_int pa_nil)))) (pa_cons (pe_callTy call_tupA (by rfl) (B.free 50 _ rfl) (by decide +kernel) (pa_cons (pv 13) pa_nil)) pa_nil))))
      (pss_cons (ps_set (i := 15) sc_w_world.nd rfl (.inl rfl) (pe_tup (pa_cons (pe_callTy call_tupA (by rfl) (B.free 50 _ rfl) (by decide +kernel) (pa_cons (pv 10) pa_nil)) (pa_cons (pe_callTy call_tupA (by rfl) (B.free 50 _ rfl) (by decide +kernel) (pa_cons (pv 5) pa_nil)) (pa_cons (pe_callTy call_tupA (by rfl) (B.free 50 _ rfl) (by decide +kernel) (pa_cons (pv 11) pa_nil)) (pa_cons (pv 14) (pa_cons (pe_tup (pa_cons pe_str pa_nil)) pa_nil)))))))
      (pss_cons (ps_set (i := 7) sc_w_world.nd rfl (.inl rfl) (pe_fn H_w_next (hr.mono (by omega)) (by rfl) (pa_cons (pv 2) pa_nil)))
      (pss_cons (ps_asg (pe_fn H_w_walk (hr.mono (by omega)) (by rfl) (pa_cons (pv 2) (pa_cons (pv 15) (pa_cons (pe_op op_mod (pv 7) (pe_op op_plus (pv 1) pe_int)) pa_nil)))) (pg_tup (n := 2) rfl (pgs_cons (pg_name (i := 16) sc_w_world.nd rfl (.inl rfl)) (pgs_cons (pg_name (i := 17) sc_w_world.nd rfl (.inl rfl)) pgs_nil))))
      (pss_cons (ps_set (i := 18) sc_w_world.nd rfl (.inl rfl) (pe_fn H_w_condition (hr.mono (by omega)) (by rfl) (pa_cons (pv 2) (pa_cons (pv 4) (pa_cons (pv 5) (pa_cons pe_int pa_nil))))))
      (pss_cons (ps_for PassesOwn.never rfl (pi_range1 (by rfl) (B.free 46 _ rfl) (pa_cons (pe_ix (ixA hr.units) (pe_lst (pa_cons pe_int (pa_cons pe_int (pa_cons pe_int (pa_cons pe_int pa_nil))))) (pe_op op_mod (pe_op op_fdiv (pv 7) pe_int) pe_int) (fun _ _ => rfl)) pa_nil)) (pg_name (i := 19) sc_w_world.nd rfl (.inl rfl)) (pss_cons (ps_set (i := 20) sc_w_world.nd rfl (.inl rfl) (pe_fn H_w_literal (hr.mono (by omega)) (by rfl) (pa_cons (pv 2) (pa_cons (pv 4) (pa_cons (pv 5) (pa_cons (pv 17) pa_nil))))))
      (pss_one (ps_set (i := 18) sc_w_world.nd rfl (.inl rfl) (pe_ifExp (pt_cmpR (op_eqM hr.units) (pv 19) pe_int (nomark _)) (pv 20) (pe_tup (pa_cons pe_str (pa_cons (pv 18) (pa_cons (pv 20) pa_nil)))))))))
      (pss_one (ps_ret (pe_tup (pa_cons (pe_op op_plus (pe_slice slD (pv 15) po_none (po_some pe_int)) (pe_tup (pa_cons (pv 18) pa_nil))) (pa_cons (pv 16) pa_nil)))))))))))))))))))), fun rs n Q h => ?walk⟩), B.glo 28 _ rfl, F.kp, .nil, F.bindsN fun _ _ _ _ _ _ us hl => match us, hl with | [_, _], _ => rfl⟩
  case len =>
    obtain ⟨rfl, _⟩ := h
    rfl
  case walk =>
    obtain ⟨rfl, hQ⟩ := h
    show SW _ _ [.s, .d (.int 12), .u, .u, .u, .u, .u, .u, .u, .u, .u, .u, .u, .u, .u, .u, .u, .u, .u, .u, .u, .u] n _
    dsimp only [cxOf]
    refine sw_mkdraw (k := 0) (i := 2) rfl (Nat.le_of_ble_eq_true rfl) rfl ?_
    dsimp only [List.set]
    walk_at "go"
    refine ⟨0, rfl, by decide, by decide, fun v0 hv0 => ⟨rfl, ?_⟩⟩
    walk_at "go"
    refine ⟨v0, rfl, fun ss hss hsl => ⟨rfl, ?_⟩⟩
    walk_at "go"
    refine ⟨rfl, by decide, by decide, fun v1 hv1 => ⟨rfl, ?_⟩⟩
    walk_at "go"
    have hv1a := hv1.1
    obtain ⟨F, eF, hF1, hF2⟩ : ∃ F : Nat, 1 + v1 % 12 = (F : Nat) ∧ 1 ≤ F ∧ F ≤ 12 := ⟨(1 + v1 % 12).toNat, by omega, by omega, by omega⟩
    rw [eF]
    refine ⟨rfl, by decide, by decide, fun v2 hv2 => ⟨rfl, ?_⟩⟩
    walk_at "go"
    have e7 : (10 : Int) ^ (Int.toNat 7) = 10000000 := rfl
    have e9 : (10 : Int) ^ (Int.toNat 9) = 1000000000 := rfl
    have hv2a := hv2.1
    refine ⟨by omega, by omega, loop_inv (fun ds G n' => ∃ (cs : List Cnt) (a6 a7 a8 a9 : Rs), G = [.s, .d (.int 12), .w, .l (ss.map PyData.str), .d (.int (F : Nat)), .l (cs.map Cnt.enc), a6, a7, a8, a9, .u, .u, .u, .u, .u, .u, .u, .u, .u, .u, .u, .u] ∧ cs.length + ds.length ≤ 3 ∧ (∀ c ∈ cs, CntOk c) ∧ 0 ≤ n' ∧ n' ≤ 10 + cs.length ∧ ∀ x ∈ ds, ∃ j : Nat, j < 3 ∧ x = .int (j : Nat)) ?_ ?_ _ _ _ ⟨[], _, _, _, _, rfl, by rw [rangeD_len]; show 0 + (v2 % 4).toNat ≤ 3; omega, (fun c hc => by cases hc), by decide, by decide, fun x hx => ?_⟩⟩
    · rintro G n' ⟨cs, a6, a7, a8, a9, rfl, hcl, hcs, hn0, hn1, _⟩
      rw [List.length_nil, Nat.add_zero] at hcl
      walk_at "go"
      refine ⟨by omega, by omega, by rw [rangeD_len]; omega, comp_all 0 (fun _ _ => True) n' _ _ _ (by omega) (fun d hd m1 g1 g2 => ?_) fun ats n2 hp g1 g2 => ?_⟩
      · obtain ⟨j, hj, rfl⟩ := range_nat hd
        walk_at "put1"
        walk_at "go"
        obtain ⟨s1, e1, _⟩ := str_at (ss := ss) (i := (0 + (j : Nat) * 1) / 2) (by omega) (by omega)
        refine ow_ixL (.inr rfl) e1 ?_
        walk_at "go"
        obtain ⟨s2, e2, _⟩ := str_at (ss := ss) (i := 15 - (0 + (j : Nat) * 1) % 2) (by omega) (by omega)
        refine ow_ixL (.inr rfl) e2 ?_
        walk_at "go"
        exact ⟨by omega, by omega, _, rfl, trivial⟩
      · obtain rfl : n2 = n' := by omega
        have hal : ats.length = F := by
          have := hp.length
          rw [rangeD_len] at this
          omega
        clear hp g1 g2
        walk_at "go"
        refine ⟨rfl, by omega, by omega, fun v3 hv3 => ⟨rfl, ?_⟩⟩
        walk_at "go"
        have hv3a := hv3.1
        refine ⟨by omega, by omega, loop_inv (fun ds G n' => ∃ (dd : List Deed) (a6 a12 : Rs), G = [.s, .d (.int 12), .w, .l (ss.map PyData.str), .d (.int (F : Nat)), .l (cs.map Cnt.enc), a6, a7, a8, a9, .l ats, .l (dd.map Deed.enc), a12, .u, .u, .u, .u, .u, .u, .u, .u, .u] ∧ dd.length + ds.length = (1 + v3 % 10).toNat ∧ (∀ d ∈ dd, DeedOk cs.length d ∧ d.need.sm ∧ LabSm d.lab) ∧ 0 ≤ n' ∧ n' ≤ 20 + 100 * dd.length ∧ ∀ x ∈ ds, ∃ j : Nat, j < 10 ∧ x = .int (j : Nat)) ?_ ?_ _ _ _ ⟨[], _, _, rfl, by rw [rangeD_len]; exact Nat.zero_add _, (fun c hc => by cases hc), by omega, by show n2 + 1 ≤ 20 + 100 * ((0 : Nat) : Int); omega, fun x hx => ?_⟩⟩
        · rintro G n' ⟨dd, a6, a12, rfl, hdl, hdd, hm0, hm1, _⟩
          rw [List.length_nil, Nat.add_zero] at hdl
          walk_at "go"
          refine ⟨by rw [List.length_map]; omega, comp_all 1 (fun d x => ∃ (c : Cnt) (z : Int), d = c.enc ∧ x = .int z ∧ c.lo ≤ z ∧ z ≤ c.hi) 60000 _ _ _ (by rw [List.length_map]; omega) (fun d hd m1 g1 g2 => ?_) fun xs n3 hp g1 g2 => ?_⟩
          · obtain ⟨c, hc, rfl⟩ := List.mem_map.1 hd
            obtain ⟨c0, c1, c2⟩ := hcs c hc
            walk_at "put1"
            walk_at "go"
            refine ⟨rfl, by omega, by omega, fun v hv => ⟨rfl, ?_⟩⟩
            walk_at "go"
            have z0 := Int.emod_nonneg v (show c.hi - c.lo + 1 ≠ 0 by omega)
            have z1 := Int.emod_lt_of_pos v (show 0 < c.hi - c.lo + 1 by omega)
            exact ⟨by omega, by omega, _, rfl, c, _, rfl, rfl, by omega, by omega⟩
          · obtain ⟨zs, rfl, hzl, hzs⟩ := amts_paired hp
            rw [List.length_map] at g2
            have hn3 : 0 ≤ n3 ∧ n3 ≤ 2000 := by omega
            obtain ⟨hp0, hp1⟩ := hn3
            clear hp g1 g2 hm0 hm1
            walk_at "go"
            refine ⟨rfl, by omega, by omega, fun v4 hv4 => ⟨rfl, ?_⟩⟩
            walk_at "go"
            refine ⟨v4, F, 5, rfl, hF1, hF2, by decide, by decide, fun bt hbt => ⟨rfl, ?_⟩⟩
            walk_at "go"
            refine ⟨rfl, by omega, by omega, fun v5 hv5 => ⟨rfl, ?_⟩⟩
            have hv5a := hv5.1
            have hW0 : WdOk ⟨ats, cs, dd, ⟨bt, zs⟩, .tru⟩ := ⟨fun d hd => (hdd d hd).1, hzl, trivial, by show 1 ≤ 8; decide, by show ats.length ≤ 12; omega, hcl, by show dd.length ≤ 10; omega, by show bt < 2 ^ ats.length; rw [hal]; exact hbt, hzs⟩
            walk_at "go"
            refine ⟨⟨ats, cs, dd, ⟨bt, zs⟩, .tru⟩, v5 % (12 + 1), rfl, hW0, by omega, by omega, by omega, by omega, fun ls s n4 hls1 hls2 hs hn4 hn5 => ⟨rfl, ?_⟩⟩
            walk_at "go"
            have e64 : ((4 ^ 3 : Nat) : Int) = 64 := rfl
            refine ⟨F, cs, 2, rfl, by decide, by decide, hF1, hF2, hcl, hcs, by omega, by rw [e64]; omega, fun c n5 hc1 hc2 hc3 hn6 hn7 => ⟨rfl, ?_⟩⟩
            rw [e64] at hn7
            walk_at "go"
            obtain ⟨z, ez, hz0, hz1⟩ := int_atP (T := fun z => 0 ≤ z ∧ z ≤ 3) (xs := [PyData.int 1, .int 2, .int 3, .int 0]) (i := v5 / 16 % 4) (fun x hx => by
              rcases List.mem_cons.1 hx with rfl | hx
              · exact ⟨_, rfl, by decide, by decide⟩
              rcases List.mem_cons.1 hx with rfl | hx
              · exact ⟨_, rfl, by decide, by decide⟩
              rcases List.mem_cons.1 hx with rfl | hx
              · exact ⟨_, rfl, by decide, by decide⟩
              rw [List.mem_singleton.1 hx]
              exact ⟨_, rfl, by decide, by decide⟩) (by omega) (by show _ < (4 : Int); omega)
            refine ow_ixL (.inl rfl) ez ?_
            walk_at "go"
            have hn8 : 0 ≤ n5 ∧ n5 ≤ 2500 := by omega
            obtain ⟨hn9, hn10⟩ := hn8
            clear hn4 hn5 hn6 hn7
            refine ⟨hz0, by omega, loop_inv (fun ds G n' => ∃ (c : Cond) (a19 a20 : Rs), G = [.s, .d (.int 12), .w, .l (ss.map PyData.str), .d (.int (F : Nat)), .l (cs.map Cnt.enc), a6, .d (.int v5), a8, a9, .l ats, .l (dd.map Deed.enc), a12, .l (zs.map PyData.int), .d (Sta.enc ⟨bt, zs⟩), .d (Wd.enc ⟨ats, cs, dd, ⟨bt, zs⟩, .tru⟩), .d (.tuple ls), .d s.enc, .d c.enc, a19, a20, .u] ∧ (c.dep + ds.length ≤ 7 ∧ ds.length ≤ 3) ∧ c.ok cs.length ∧ c.sm ∧ 0 ≤ n' ∧ n' + ds.length ≤ 4000 ∧ ∀ x ∈ ds, ∃ z : Int, x = .int z) ?_ ?_ _ _ _ ⟨c, _, _, rfl, by rw [rangeD_len]; omega, hc1, hc3, hn9, by rw [rangeD_len]; omega, fun x hx => ?_⟩⟩
            · rintro G n' ⟨c, a19, a20, rfl, hcd, hco, hcm, hm0, hm1, _⟩
              rw [List.length_nil, Nat.add_zero] at hcd
              walk_at "go"
              refine lw_T (xs := [.tuple ats, .tuple (cs.map Cnt.enc), .tuple (dd.map Deed.enc), Sta.enc ⟨bt, zs⟩, Cond.enc .tru]) ?_
              walk_at "go"
              refine ow_addT (Nat.le_of_ble_eq_true rfl) ?_
              walk_at "go"
              exact hQ ⟨ats, cs, dd, ⟨bt, zs⟩, c⟩ ls ⟨hW0.deeds, hW0.start, hco, by show c.dep ≤ 8; omega, hW0.atoms, hW0.cnts, hW0.dds, hW0.st0, hW0.st1⟩ ⟨fun d hd => (hdd d hd).2.2, fun d hd => (hdd d hd).2.1, hcm, hcs⟩ (by show 1 ≤ ats.length; omega) (by show 1 ≤ dd.length; omega) hls1 hls2
            · rintro x ds G n' ⟨c, a19, a20, rfl, hcd, hco, hcm, hm0, hm1, hx⟩
              obtain ⟨z, rfl⟩ := hx x (List.mem_cons_self ..)
              rw [List.length_cons] at hcd hm1
              have hx2 : ∀ x ∈ ds, ∃ z : Int, x = .int z := fun x h => hx x (List.mem_cons_of_mem _ h)
              walk_at "put1"
              walk_at "go"
              refine ⟨F, cs, s.enc, rfl, hF1, hF2, hcl, hcs, .inr ⟨s, rfl, hs⟩, by omega, by omega, fun c2 hc2 hc3 hc4 => ⟨rfl, ?_⟩⟩
              walk_at "go"
              refine br_2 (fun b1 => ?_) (fun b1 => ?_)
              · walk_at "go"
                exact ⟨by omega, hc2, hc4, by omega, by omega, hx2⟩
              · walk_at "go"
                exact ⟨.an c c2, _, _, rfl, by show max c.dep c2.dep + 1 + _ ≤ 7 ∧ _; omega, ⟨hco, hc2⟩, ⟨hcm, hc4⟩, by omega, by omega, hx2⟩
            · obtain ⟨j, hj, rfl⟩ := range_nat hx
              exact ⟨_, rfl⟩
        · rintro x ds G n' ⟨dd, a6, a12, rfl, hdl, hdd, hm0, hm1, hx⟩
          obtain ⟨j, hj, rfl⟩ := hx x (List.mem_cons_self ..)
          rw [List.length_cons] at hdl
          walk_at "put1"
          walk_at "go"
          obtain ⟨s1, e1, hs1⟩ := str_at (ss := ss) (i := (j : Nat)) (by omega) (by omega)
          refine ow_ixL (.inr rfl) e1 ?_
          walk_at "go"
          refine ow_ixL (.inr rfl) e1 ?_
          walk_at "go"
          refine ow_mulT (List.cons_ne_nil _ _) (by omega) (by omega) (Nat.le_of_ble_eq_true rfl) ?_
          walk_at "go"
          have el : PyData.tuple [.str s1, .tuple (List.replicate ((j : Int) % 3).toNat [PyData.str s1]).flatten] = labOf s1 ((j : Int) % 3).toNat := by
            unfold labOf
            rw [List.flatten_replicate_singleton]
          rw [el]
          refine sw_append rfl (by rw [List.length_map]; omega) ?_
          walk_at "go"
          refine ⟨_, F, cs, rfl, lab_ok s1 (by omega), hF1, hF2, hcl, hcs, by omega, by omega, fun d n3 ed hd1 hd2 hd3 hd4 => ⟨rfl, ?_⟩⟩
          walk_at "go"
          refine ⟨dd ++ [d], _, _, by rw [List.map_append]; rfl, by rw [List.length_append]; show dd.length + 1 + _ = _; omega, fun c hc => ?_, by omega, by rw [List.length_append]; show _ ≤ 20 + 100 * ((dd.length + 1 : Nat) : Int); omega, fun x hx' => hx x (List.mem_cons_of_mem _ hx')⟩
          rcases List.mem_append.1 hc with hc | hc
          · exact hdd c hc
          · rw [List.mem_singleton.1 hc]
            exact ⟨hd1, hd2, s1, _, ed, hsl s1 hs1, by omega⟩
        · obtain ⟨j, hj, rfl⟩ := range_nat hx
          exact ⟨j, by omega, by rw [Int.mul_one, Int.zero_add]⟩
    · rintro x ds G n' ⟨cs, a6, a7, a8, a9, rfl, hcl, hcs, hn0, hn1, hx⟩
      obtain ⟨j, hj, rfl⟩ := hx x (List.mem_cons_self ..)
      rw [List.length_cons] at hcl
      walk_at "put1"
      walk_at "go"
      refine ⟨rfl, by omega, by omega, fun v hv => ⟨rfl, ?_⟩⟩
      obtain ⟨hva, hvb⟩ := hv
      walk_at "go"
      obtain ⟨lo, e1, hlo1, hlo2⟩ := int_atP (T := fun z => -10000000 ≤ z ∧ z ≤ 33554431) (xs := [PyData.int 0, .int 0, .int (-3), .int (v - 10 ^ (7 : Int).toNat)]) (i := v % 4) (fun x hx => by
        rcases List.mem_cons.1 hx with rfl | hx
        · exact ⟨_, rfl, by decide, by decide⟩
        rcases List.mem_cons.1 hx with rfl | hx
        · exact ⟨_, rfl, by decide, by decide⟩
        rcases List.mem_cons.1 hx with rfl | hx
        · exact ⟨_, rfl, by decide, by decide⟩
        rw [List.mem_singleton.1 hx]
        exact ⟨_, rfl, by rw [e7]; omega, by rw [e7]; omega⟩) (by omega) (by show _ < (4 : Int); omega)
      refine ow_ixL (.inl rfl) e1 ?_
      walk_at "go"
      obtain ⟨ad, e2, had⟩ := int_atP (T := fun z => 0 ≤ z) (xs := [PyData.int 0, .int 2, .int 5, .int (10 ^ (9 : Int).toNat + 5)]) (i := v / 4 % 4) (fun x hx => by
        rcases List.mem_cons.1 hx with rfl | hx
        · exact ⟨_, rfl, by decide⟩
        rcases List.mem_cons.1 hx with rfl | hx
        · exact ⟨_, rfl, by decide⟩
        rcases List.mem_cons.1 hx with rfl | hx
        · exact ⟨_, rfl, by decide⟩
        rw [List.mem_singleton.1 hx]
        exact ⟨_, rfl, by rw [e9]; decide⟩) (by omega) (by show _ < (4 : Int); omega)
      refine ow_ixL (.inl rfl) e2 ?_
      walk_at "go"
      refine sw_append rfl (by rw [List.length_map]; omega) ?_
      walk_at "go"
      obtain ⟨s1, e3, _⟩ := str_at (ss := ss) (i := 15 - (j : Nat)) (by omega) (by omega)
      refine ow_ixL (.inr rfl) e3 ?_
      walk_at "go"
      obtain ⟨s2, e4, _⟩ := str_at (ss := ss) (i := 0) (by omega) (by omega)
      refine ow_ixL (.inr rfl) e4 ?_
      walk_at "go"
      refine ow_mulT (List.cons_ne_nil _ _) (by omega) (by omega) (Nat.le_of_ble_eq_true rfl) ?_
      walk_at "go"
      refine cw_min ?_
      walk_at "go"
      refine ⟨cs ++ [⟨.tuple [.str s1, .tuple (List.replicate (v / 16 % 2).toNat [PyData.str s2]).flatten], lo, if 10 ^ (9 : Int).toNat < lo + ad then 10 ^ (9 : Int).toNat else lo + ad⟩], _, _, _, _, by rw [List.map_append]; rfl, by rw [List.length_append]; show cs.length + 1 + _ ≤ 3; omega, fun c hc => ?_, by omega, by rw [List.length_append]; show _ ≤ 10 + ((cs.length + 1 : Nat) : Int); omega, fun x hx' => hx x (List.mem_cons_of_mem _ hx')⟩
      rcases List.mem_append.1 hc with hc | hc
      · exact hcs c hc
      · rw [List.mem_singleton.1 hc]
        unfold CntOk
        dsimp only
        rw [e9]
        split <;> omega
    · obtain ⟨j, hj, rfl⟩ := range_nat hx
      exact ⟨j, by omega, by rw [Int.mul_one, Int.zero_add]⟩
end
end Dd
set_option Elab.async false
set_option linter.all false
set_option maxRecDepth 100000
set_option autoImplicit false
set_option maxHeartbeats 1000000
/-! Pn: trees that are drawn, trees that are grown. -/
namespace Dd
open PySem PySem.Spec PyProof.Rows L2 Dl
local macro_rules | `(tactic| walk_at "dx.var") => `(tactic| ((with_reducible show EW _ (tVar _) _ _ _); first
  | (refine ew_varD rfl ?_) | (refine ew_varR rfl ?_) | (refine ew_varL rfl ?_) | (refine ew_varW rfl ?_) | (refine ew_varS rfl ?_) | (refine ew_varT rfl ?_)))
local macro_rules | `(tactic| walk_at "dx.ew") => `(tactic| first
  | (walk_at "dx.var")
  | (with_reducible refine ew_int ?_) | ((with_reducible refine ew_str ?hh ?_); (case hh => decide +kernel)) | (with_reducible refine ew_bl ?_) | (with_reducible refine ew_non ?_)
  | ((with_reducible show EW _ (tOp (rIxA _ _) (tVar _) (tC (.int 0))) _ _ _); refine ew_w0 rfl ?_) | ((with_reducible show EW _ (tOp (rIxA _ _) (tVar _) (tC (.int 1))) _ _ _); refine ew_w1 rfl ?_)
  | (with_reducible refine ew_op ?_) | (with_reducible refine ew_un ?_) | (with_reducible refine ew_tupE ?_) | (with_reducible refine ew_lstE ?_) | (with_reducible refine ew_isi ?_) | (with_reducible refine ew_cb ?_)
  | (with_reducible refine ew_andV ?_) | (with_reducible refine ew_orV ?_) | (with_reducible refine ew_notV ?_) | ((with_reducible refine ew_callWv ?hw ?_); (case hw => exact rfl)) | (with_reducible refine ew_call ?_) | (with_reducible refine ew_callD ?_) | ((with_reducible refine ew_lc1 ?hq ?_); (case hq => exact rfl)) | ((with_reducible refine ew_lc2 ?hq ?hq2 ?_); (case hq => exact rfl); (case hq2 => exact rfl)) | (with_reducible refine ew_if ?_) | (with_reducible refine ew_chain ?_) | (with_reducible refine ew_sl ?_) | (with_reducible refine ew_bmS ?_) | (with_reducible refine ew_back ?_))
local macro_rules | `(tactic| walk_at "dx.ow") => `(tactic| first
  | (with_reducible refine ow_addI ?_) | (with_reducible refine ow_eqI ?_) | (with_reducible refine ow_eqS ?_) | (with_reducible refine ow_neI ?_) | (with_reducible refine ow_neS ?_) | (with_reducible refine ow_neN (.inr rfl) (.inl rfl) ?_) | (with_reducible refine ow_eqN (.inr rfl) (.inl rfl) ?_) | ((with_reducible refine ow_inT ?hmm ?_); (case hmm => exact Nat.le_of_ble_eq_true rfl)) | (with_reducible refine ow_isN ?_) | (with_reducible refine ow_noN ?_)
  | (with_reducible refine ow_intB ?_) | (with_reducible refine ow_int ?_) | ((with_reducible refine ow_intC ?hc ?_); (case hc => first | decide | omega | exact ⟨by decide, by decide⟩ | exact ⟨by omega, by omega⟩ | exact ⟨by decide, by decide, by decide⟩ | exact ⟨by omega, by omega, by decide⟩))
  | ((with_reducible refine ow_mulI ?hcm ?_); (case hcm => first | exact Or.inl ⟨by decide, by decide⟩ | exact Or.inr ⟨by decide, by decide⟩ | exact Or.inl ⟨by omega, by omega⟩ | exact Or.inr ⟨by omega, by omega⟩))
  | ((with_reducible show OW _ (rIxA _ _) (Rs.d _) (Rs.d _) _); refine ow_ixT rfl ?_))
local macro_rules | `(tactic| walk_at "dx.sw") => `(tactic| first
  | (walk_at "dx.for") | (with_reducible refine sw_seq ?_) | (with_reducible refine sw_next ?_) | ((with_reducible show SW _ (tDrop (tCall _ _ _ _)) _ _ _); refine sw_expr ?_) | (with_reducible refine sw_cont ?_) | (with_reducible refine sw_ret ?_) | (with_reducible refine sw_retN ?_) | (with_reducible refine sw_if ?_)
  | ((with_reducible show SW _ (tAsg (tBM0 _ _ rPop (tVar _)) _) _ _ _); refine sw_pop2 (Nat.le_of_ble_eq_true rfl) (Nat.le_of_ble_eq_true rfl) rfl ?_; dsimp only [List.set])
  | ((with_reducible show SW _ (tDrop (tBM _ _ rExtend _ _)) _ _ _); refine sw_extend rfl ?_) | ((with_reducible show SW _ (tDrop (tBM0 _ _ rReverse _)) _ _ _); refine sw_reverse rfl ?_)
  | ((with_reducible show SW _ (tAsg _ (gSub (tVar _) _ _)) _ _ _); first | (refine sw_draw rfl ?_) | (refine sw_store rfl ?_))
  | ((with_reducible refine sw_aliasL (xs := ?xs) ?hi ?hal ?_); (case hal => exact rfl); (case hi => exact Nat.le_of_ble_eq_true rfl); dsimp only [List.set])
  | ((with_reducible refine sw_set ?hi ?_); (case hi => exact Nat.le_of_ble_eq_true rfl))
  | ((with_reducible refine sw_par ?hi ?hj ?_); (case hi => exact Nat.le_of_ble_eq_true rfl); (case hj => exact Nat.le_of_ble_eq_true rfl); dsimp only [List.set])
  | ((with_reducible refine sw_asg2 ?hi ?hj ?_); (case hi => exact Nat.le_of_ble_eq_true rfl); (case hj => exact Nat.le_of_ble_eq_true rfl); dsimp only [List.set])
  | ((with_reducible refine sw_asg3 ?hi ?hj ?hk ?_); (case hi => exact Nat.le_of_ble_eq_true rfl); (case hj => exact Nat.le_of_ble_eq_true rfl); (case hk => exact Nat.le_of_ble_eq_true rfl); dsimp only [List.set])
  | ((with_reducible refine sw_aug (a := ?aa) ?hi ?_); (case hi => exact rfl); dsimp only [List.set]))
local macro_rules | `(tactic| walk_at "dx.for") => `(tactic| first
  | (with_reducible refine sw_for1 ?_) | (with_reducible refine sw_for2 ?_))
local macro_rules | `(tactic| walk_at "dx.misc") => `(tactic| first
  | (with_reducible refine ea_cons ?_) | (with_reducible refine ea_nil ?_)
  | (with_reducible refine tw_test ?_) | (with_reducible refine tw_B ?_) | (with_reducible refine tw_and ?_) | (with_reducible refine tw_or ?_) | (with_reducible refine tw_not ?_) | (with_reducible refine tw_yes ?_)
  | (with_reducible refine wi_tup ?_) | (with_reducible refine wi_enumT ?_) | (with_reducible refine wi_zipT ?_) | (with_reducible refine wi_rev ?_) | (with_reducible refine wi_range ?_) | (refine wi_enum rfl ?_) | (refine wi_var rfl ?_) | ((with_reducible show WI _ (iList _ (tCall _ _ _ _)) _ _ _); refine wi_new ?_) | (with_reducible refine uw_int ?_) | (with_reducible refine op_no ?_) | (with_reducible refine op_int ?_)
  | ((with_reducible show Br (decide ((_ : Int) < _)) _ _); first | (refine br_t rfl ?_) | (refine br_f rfl ?_)) | ((with_reducible show Br (decide ((_ : Int) ≤ _)) _ _); first | (refine br_t rfl ?_) | (refine br_f rfl ?_)) | ((with_reducible show Br (decide ((_ : Int) = _)) _ _); first | (refine br_t rfl ?_) | (refine br_f rfl ?_)) | ((with_reducible show Br (!decide ((_ : Int) = _)) _ _); first | (refine br_t rfl ?_) | (refine br_f rfl ?_))
  | ((with_reducible show Br (isNone _) _ _); first | (refine br_t rfl ?_) | (refine br_f rfl ?_)) | ((with_reducible show Br (!isNone _) _ _); first | (refine br_t rfl ?_) | (refine br_f rfl ?_))
  | ((with_reducible show Br true _ _); refine br_t rfl ?_) | ((with_reducible show Br false _ _); refine br_f rfl ?_) | (refine br_t (by decide +kernel) ?_) | (refine br_f (by decide +kernel) ?_)
  | (with_reducible refine cw_lenT ?_) | (with_reducible refine cw_listT ?_) | (with_reducible refine cw_tupL (.inr rfl) ?_) | (with_reducible refine cw_tupL (.inl rfl) ?_) | (with_reducible refine cw_lenL (.inr rfl) ?_) | (with_reducible refine cw_lenL (.inl rfl) ?_) | (with_reducible refine cw_lenW ?_)
  | (refine ⟨_, _, rfl, kit_ii, ?_⟩) | (refine ⟨_, _, rfl, kit_ib, ?_⟩) | (refine ⟨_, _, rfl, kit_tt, ?_⟩) | (refine ⟨_, _, rfl, kit_ss, ?_⟩)
  | (with_reducible refine ⟨_, rfl, ?_⟩) | (refine ⟨_, rfl, Nat.le_of_ble_eq_true rfl, ?_⟩) | (with_reducible refine ⟨_, _, rfl, ?_⟩) | (with_reducible refine ⟨_, _, _, rfl, ?_⟩) | ((with_reducible refine ⟨(fun _ z => nomatch z), ?_⟩); (try dsimp only [List.set])) | (refine ⟨_, _, rfl, by decide +kernel, ?_⟩) | (refine ⟨Nat.le_of_ble_eq_true rfl, ?_⟩) | (with_reducible refine ⟨rfl, ?_⟩) | dsimp only)
local macro_rules | `(tactic| walk_at "dx") => `(tactic| first
  | ((with_reducible refine ew_demoteL (xs := ?xs) ?hdm ?_); (case hdm => exact rfl); dsimp only [List.set]) | ((with_reducible refine sw_demoteF (xs := ?xs) ?hdm ?_); (case hdm => exact rfl); dsimp only [List.set]) | ((with_reducible refine sw_demoteE (xs := ?xs) ?hdm ?_); (case hdm => exact rfl); dsimp only [List.set])
  | ((with_reducible show EW _ _ _ _ _); walk_at "dx.ew") | ((with_reducible show SW _ _ _ _ _); walk_at "dx.sw") | ((with_reducible show OW _ _ _ _ _); walk_at "dx.ow") | (walk_at "dx.misc"))
local macro_rules | `(tactic| walk_at "go") => `(tactic| repeat walk_at "dx")
local macro_rules | `(tactic| walk_at "put1") => `(tactic| (refine ⟨Nat.le_of_ble_eq_true rfl, _, rfl, ?_⟩; dsimp only [wipeG, List.map, List.set]))
local macro_rules | `(tactic| walk_at "put2") => `(tactic| (refine ⟨⟨Nat.le_of_ble_eq_true rfl, Nat.le_of_ble_eq_true rfl⟩, _, rfl, ?_⟩; dsimp only [wipeG, List.map, List.set]))
def sp_w_tree (m : Nat) : DSpec := fun rs n Q => ∃ (W : Wd) (a deep : Int), rs = [.d W.enc, .d (.int a), .d (.int deep)] ∧ WdOk W ∧ 1 ≤ W.atoms.length ∧ 1 ≤ W.deeds.length ∧ 1 ≤ deep ∧ deep ≤ (m : Nat) ∧
  ∀ t : Tree, t.ok W → t.deep ≤ m → t.size < 2 ^ m → Q (.d t.enc) n
def sp_w_grown (m : Nat) : DSpec := fun rs n Q => ∃ (W : Wd) (s : Sta) (a deep : Int), rs = [.d W.enc, .d s.enc, .d (.int a), .d (.int deep)] ∧ WdOk W ∧ 1 ≤ W.atoms.length ∧ s.am.length = W.counts.length ∧ 1 ≤ deep ∧ deep ≤ (m : Nat) ∧ deep ≤ 1000 ∧
  ∀ t : Tree, t.ok W → t.deep ≤ m → t.size < 2 ^ m → Q (.d t.enc) n
theorem nat_mod (a : Int) {m : Nat} (h : 0 < m) : ∃ k : Nat, a % (m : Nat) = (k : Nat) ∧ k < m := ⟨(a % (m : Nat)).toNat, by have := Int.emod_nonneg a (show ((m : Nat) : Int) ≠ 0 by omega); omega, by have := Int.emod_lt_of_pos a (show (0 : Int) < (m : Nat) by omega); have := Int.emod_nonneg a (show ((m : Nat) : Int) ≠ 0 by omega); omega⟩
section
variable {P : Program} {w : World} {K : PySem.W.Frag} {mg : Str → Option Value} {base : Heap} {ns : List Int} {k m : Nat}
theorem vac_w_tree {sp : DSpec} (B : Bs K mg) (h : ∀ rs n Q, ¬ sp rs n Q) : Fn P w K mg base ns "_law_tree" k ["_law_plain", "_law_number", "_law_deep"] [] sp := by
  obtain ⟨fd, F⟩ := B.says.def_ 31 (d := d_w_tree) rfl
  exact ⟨_, fd, _, fnok_vac h, B.glo 31 _ rfl, F.kp, .nil, F.bindsN fun _ _ _ _ _ _ us hl => match us, hl with | [_, _, _], _ => rfl⟩
def nm_w_tree : List Str := ["_law_plain", "_law_number", "_law_deep", "_law_way", "_law_label", "_law_one"]
theorem sc_w_tree : FnScope nm_w_tree ["_law_plain", "_law_number", "_law_deep"] (defScope s_w_tree) := ⟨rfl, rfl, rfl, by decide +kernel, rfl, by decide +kernel, by decide +kernel⟩
/- slots of w_tree: 0 _law_plain, 1 _law_number, 2 _law_deep, 3 _law_way, 4 _law_label, 5 _law_one -/
theorem ok_w_tree (B : Bs K mg) (H_w_tree : Fn P w K mg base ns "_law_tree" (1 + k) ["_law_plain", "_law_number", "_law_deep"] [] (sp_w_tree m)) (H_w_mixed : Fn P w K mg base ns "_law_mixed" 1 ["_law_number", "_law_k"] [] sp_w_mixed) : Fn P w K mg base ns "_law_tree" ((1 + k) + 1) ["_law_plain", "_law_number", "_law_deep"] [] (sp_w_tree (m + 1)) := by
  obtain ⟨fd, F⟩ := B.says.def_ 31 (d := d_w_tree) rfl
  refine ⟨_, fd, _, okD (ns := ns) F sc_w_tree (fun rs n Q h => ?len) (fun cdv A outer s H E hr => ⟨_, PSs.nox (pss_cons (ps_set (i := 3) sc_w_tree.nd rfl (.inl rfl) (pe_op op_mod (pv 1) pe_int))
      (pss_cons (ps_if (PW.pt (pw_or (pt_cmpR op_lt (pv 2) pe_int (nomark _)) (pw_or1 (pt_cmpR (op_eqM hr.units) (pv 3) pe_int (nomark _))))) (pss_one (ps_ret (pe_tup (pa_cons pe_str pa_nil)))) pss_nil)
      (pss_cons (ps_if (pt_cmpR op_lt (pv 3) pe_int (nomark _)) (pss_cons (ps_set (i := 4) sc_w_tree.nd rfl (.inl rfl) (pe_ix (ixA hr.units) (pe_ix (ixA hr.units) (pe_ix (ixA hr.units) (pv 0) pe_int (fun _ _ => rfl)) (pe_op op_mod (pe_op op_fdiv (pv 1) pe_int) (pe_callB call_lenA (by rfl) (B.free 43 _ rfl) PySem.boot_len (pa_cons (pe_ix (ixA hr.units) (pv 0) pe_int (fun _ _ => rfl)) pa_nil))) (fun _ _ => rfl)) pe_int (fun _ _ => rfl)))
      (pss_one (ps_ret (pe_tup (pa_cons pe_str (pa_cons (pv 4) (pa_cons (pe_fn H_w_tree (hr.mono (by omega)) (by rfl) (pa_cons (pv 0) (pa_cons (pe_fn H_w_mixed (hr.mono (by omega)) (by rfl) (pa_cons (pv 1) (pa_cons pe_int pa_nil))) (pa_cons (pe_op op_sub (pv 2) pe_int) pa_nil)))) pa_nil))))))) pss_nil)
      (pss_cons (ps_set (i := 5) sc_w_tree.nd rfl (.inl rfl) (pe_fn H_w_tree (hr.mono (by omega)) (by rfl) (pa_cons (pv 0) (pa_cons (pe_fn H_w_mixed (hr.mono (by omega)) (by rfl) (pa_cons (pv 1) (pa_cons pe_int pa_nil))) (pa_cons (pe_op op_sub (pv 2) pe_int) pa_nil)))))
      (pss_one (ps_ret (pe_tup (pa_cons pe_str (pa_cons (pe_op op_mod (pe_op op_fdiv (pv 1) pe_int) (pe_callB call_lenA (by rfl) (B.free 43 _ rfl) PySem.boot_len (pa_cons (pe_ix (ixA hr.units) (pv 0) pe_int (fun _ _ => rfl)) pa_nil))) (pa_cons (pv 5) (pa_cons (pe_fn H_w_tree (hr.mono (by omega)) (by rfl) (pa_cons (pv 0) (pa_cons (pe_fn H_w_mixed (hr.mono (by omega)) (by rfl) (pa_cons (pv 1) (pa_cons pe_int pa_nil))) (pa_cons (pe_op op_sub (pv 2) pe_int) pa_nil)))) pa_nil))))))))))), fun rs n Q h => ?walk⟩), B.glo 31 _ rfl, F.kp, .nil, F.bindsN fun _ _ _ _ _ _ us hl => match us, hl with | [_, _, _], _ => rfl⟩
  case len =>
    obtain ⟨_, _, _, rfl, _⟩ := h
    rfl
  case walk =>
    obtain ⟨W, a, deep, rfl, hW, hA, hD, hd1, hd2, hQ⟩ := h
    show SW _ _ [.d W.enc, .d (.int a), .d (.int deep), .u, .u, .u] n _
    dsimp only [cxOf]
    have h2 : 2 ^ (m + 1) = 2 * 2 ^ m := by rw [Nat.pow_succ, Nat.mul_comm]
    have h5 : 1 ≤ 2 ^ m := Nat.one_le_pow _ _ (by decide)
    walk_at "go"
    refine br_2 (fun b1 => ?_) (fun b1 => ?_)
    · walk_at "go"
      exact hQ .done trivial (by show 1 ≤ m + 1; omega) (by rw [h2]; show 1 < _; omega)
    · have b1 := of_decide_eq_false b1
      walk_at "go"
      refine br_2 (fun b2 => ?_) (fun b2 => ?_)
      · walk_at "go"
        exact hQ .done trivial (by show 1 ≤ m + 1; omega) (by rw [h2]; show 1 < _; omega)
      · walk_at "go"
        refine br_2 (fun b3 => ?_) (fun b3 => ?_)
        · have hD2 : 0 < (W.deeds.map Deed.enc).length := by rw [List.length_map]; exact hD
          walk_at "go"
          rw [List.length_map]
          obtain ⟨j, ej, hj⟩ := nat_mod (a / 5) hD
          rw [ej]
          have e1 : atI (W.deeds.map Deed.enc) (j : Nat) = some (W.deeds[j]).enc := atI_nat (by rw [List.getElem?_map, List.getElem?_eq_getElem hj]; rfl)
          refine ow_ixT e1 ?_
          walk_at "go"
          refine ⟨by decide, fun v hv => ⟨rfl, ?_⟩⟩
          walk_at "go"
          refine ⟨W, v, deep - 1, rfl, hW, hA, hD, by omega, by omega, fun t h6 h7 h8 => ⟨rfl, ?_⟩⟩
          walk_at "go"
          exact hQ (.doo _ t) ⟨⟨W.deeds[j], List.getElem_mem hj, rfl⟩, h6⟩ (by show t.deep + 1 ≤ _; omega) (by rw [h2]; show t.size + 1 < _; omega)
        · walk_at "go"
          refine ⟨by decide, fun v hv => ⟨rfl, ?_⟩⟩
          walk_at "go"
          refine ⟨W, v, deep - 1, rfl, hW, hA, hD, by omega, by omega, fun t h6 h7 h8 => ⟨rfl, ?_⟩⟩
          walk_at "go"
          obtain ⟨j, ej, hj⟩ := nat_mod (a / 5) hA
          rw [ej]
          refine ⟨by decide, fun v2 hv2 => ⟨rfl, ?_⟩⟩
          walk_at "go"
          refine ⟨W, v2, deep - 1, rfl, hW, hA, hD, by omega, by omega, fun t2 g6 g7 g8 => ⟨rfl, ?_⟩⟩
          walk_at "go"
          exact hQ (.ask j t t2) ⟨hj, h6, g6⟩ (by show max t.deep t2.deep + 1 ≤ _; omega) (by rw [h2]; show t.size + t2.size + 1 < _; omega)
theorem fn_w_tree (B : Bs K mg) (HM : Fn P w K mg base ns "_law_mixed" 1 ["_law_number", "_law_k"] [] sp_w_mixed) : ∀ m : Nat, Fn P w K mg base ns "_law_tree" (1 + m) ["_law_plain", "_law_number", "_law_deep"] [] (sp_w_tree m)
  | 0 => vac_w_tree B fun rs n Q h => by
    obtain ⟨W, a, deep, _, _, _, _, h1, h2, _⟩ := h
    omega
  | m + 1 => ok_w_tree B (H_w_mixed := HM) (H_w_tree := fn_w_tree B HM m)
theorem vac_w_grown {sp : DSpec} (B : Bs K mg) (h : ∀ rs n Q, ¬ sp rs n Q) : Fn P w K mg base ns "_law_grown" k ["_law_plain", "_law_state", "_law_number", "_law_deep"] [] sp := by
  obtain ⟨fd, F⟩ := B.says.def_ 32 (d := d_w_grown) rfl
  exact ⟨_, fd, _, fnok_vac h, B.glo 32 _ rfl, F.kp, .nil, F.bindsN fun _ _ _ _ _ _ us hl => match us, hl with | [_, _, _, _], _ => rfl⟩
def nm_w_grown : List Str := ["_law_plain", "_law_state", "_law_number", "_law_deep", "_law_some", "_law_k", "_law_turned", "_law_sides", "_law_deed_here", "_law_behind", "_law_pair"]
theorem sc_w_grown : FnScope nm_w_grown ["_law_plain", "_law_state", "_law_number", "_law_deep"] (defScope s_w_grown) := ⟨rfl, rfl, rfl, by decide +kernel, rfl, by decide +kernel, by decide +kernel⟩
/- slots of w_grown: 0 _law_plain, 1 _law_state, 2 _law_number, 3 _law_deep, 4 _law_some, 5 _law_k, 6 _law_turned, 7 _law_sides, 8 _law_deed_here, 9 _law_behind, 10 _law_pair -/
theorem ok_w_grown (B : Bs K mg) (H_w_grown : Fn P w K mg base ns "_law_grown" (9 + k) ["_law_plain", "_law_state", "_law_number", "_law_deep"] [] (sp_w_grown m)) (H_w_holds : Fn P w K mg base ns "_law_holds" 8 ["_law_condition_here", "_law_state"] [] (sp_holds 8)) (H_w_done : Fn P w K mg base ns "_law_done" 9 ["_law_plain", "_law_deed_here", "_law_state"] [] sp_w_done) (H_w_mixed : Fn P w K mg base ns "_law_mixed" 1 ["_law_number", "_law_k"] [] sp_w_mixed) : Fn P w K mg base ns "_law_grown" ((9 + k) + 1) ["_law_plain", "_law_state", "_law_number", "_law_deep"] [] (sp_w_grown (m + 1)) := by
  obtain ⟨fd, F⟩ := B.says.def_ 32 (d := d_w_grown) rfl
  refine ⟨_, fd, _, okD (ns := ns) F sc_w_grown (fun rs n Q h => ?len) (fun cdv A outer s H E hr => ⟨_, PSs.nox (pss_cons (ps_set (i := 2) sc_w_grown.nd rfl (.inl rfl) (pe_fn H_w_mixed (hr.mono (by omega)) (by rfl) (pa_cons (pv 2) (pa_cons (pv 3) pa_nil))))
      (pss_cons (ps_setLc (i := 4) (own := [("_law_deed_here", 8)]) (g := gName 8) (tt := tYes) (te := (tTup (tCons (tVar 8) (tCons (tCall (spOf ⟨K, ns, w⟩ sp_w_done) [] E0 (tCons (tVar 0) (tCons (tVar 8) (tCons (tVar 1) tNil)))) tNil)))) rfl sc_w_grown.nd rfl rfl (sw_true rfl rfl rfl (by decide +kernel)) (pi_tup (pe_ix (ixA hr.units) (pv 0) pe_int (fun _ _ => rfl))) (blkOk_by (own := [("_law_deed_here", 8)]) (N := nm_w_grown) (sc := defScope s_w_grown) (by decide +kernel)) (fun _ _ _ _ _ => (pg_name (i := 8) sc_w_grown.nd rfl (.inl rfl))) (fun _ _ _ _ _ => pts_nil) (fun _ _ _ _ _ => (pe_tup (pa_cons (pv 8) (pa_cons (pe_fn H_w_done (hr.mono (by omega)) (by rfl) (pa_cons (pv 0) (pa_cons (pv 8) (pa_cons (pv 1) pa_nil)))) pa_nil)))))
      (pss_cons (ps_setLc (i := 4) (own := [("_law_pair", 10)]) (g := gName 10) (tt := (tTest (tOp (rNotN) (tOp (rIxA K w) (tVar 10) (tC (V.int 1))) (tC V.non)))) (te := (tVar 10)) rfl sc_w_grown.nd rfl rfl (sw_true rfl rfl rfl (by decide +kernel)) (pi_list (pv 4)) (blkOk_by (own := [("_law_pair", 10)]) (N := nm_w_grown) (sc := defScope s_w_grown) (by decide +kernel)) (fun _ _ _ _ _ => (pg_name (i := 10) sc_w_grown.nd rfl (.inl rfl))) (fun _ _ _ _ _ => pts_one (pt_cmpR op_some (pe_ix (ixA hr.units) (pv 10) pe_int (fun _ _ => rfl)) pe_non (nomark _))) (fun _ _ _ _ _ => (pv 10)))
      (pss_cons (ps_if (PW.pt (pw_or (pt_cmpR op_lt (pv 3) pe_int (nomark _)) (pw_or (pt_cmpR (op_eqM hr.units) (pv 4) (pe_lst pa_nil) (nomark _)) (pw_or1 (PW.pt (pw_and (pt_val (pe_fn H_w_holds (hr.mono (by omega)) (by rfl) (pa_cons (pe_ix (ixA hr.units) (pv 0) pe_int (fun _ _ => rfl)) (pa_cons (pv 1) pa_nil)))) (pw_and1 (pt_cmpR op_gt (pe_op op_mod (pv 2) pe_int) pe_int (nomark _))))))))) (pss_one (ps_ret (pe_tup (pa_cons pe_str pa_nil)))) pss_nil)
      (pss_cons (ps_if (pt_cmpR (op_eqM hr.units) (pe_op op_mod (pv 2) pe_int) pe_int (nomark _)) (pss_cons (ps_set (i := 5) sc_w_grown.nd rfl (.inl rfl) (pe_op op_mod (pe_op op_fdiv (pv 2) pe_int) (pe_callB call_lenA (by rfl) (B.free 43 _ rfl) PySem.boot_len (pa_cons (pe_ix (ixA hr.units) (pv 0) pe_int (fun _ _ => rfl)) pa_nil))))
      (pss_cons (ps_set (i := 6) sc_w_grown.nd rfl (.inl rfl) (pe_tup (pa_cons (pe_op op_xor (pe_ix (ixA hr.units) (pv 1) pe_int (fun _ _ => rfl)) (pe_op op_shl pe_int (pv 5))) (pa_cons (pe_ix (ixA hr.units) (pv 1) pe_int (fun _ _ => rfl)) pa_nil))))
      (pss_cons (ps_set (i := 7) sc_w_grown.nd rfl (.inl rfl) (pe_lst (pa_cons (pe_fn H_w_grown (hr.mono (by omega)) (by rfl) (pa_cons (pv 0) (pa_cons (pv 1) (pa_cons (pv 2) (pa_cons (pe_op op_sub (pv 3) pe_int) pa_nil))))) (pa_cons (pe_fn H_w_grown (hr.mono (by omega)) (by rfl) (pa_cons (pv 0) (pa_cons (pv 6) (pa_cons (pe_op op_plus (pv 2) pe_int) (pa_cons (pe_op op_sub (pv 3) pe_int) pa_nil))))) pa_nil))))
      (pss_cons (ps_if (pt_cmpR (op_eqM hr.units) (pe_op op_and (pe_op op_shr (pe_ix (ixA hr.units) (pv 1) pe_int (fun _ _ => rfl)) (pv 5)) pe_int) pe_int (nomark _)) (pss_one (ps_expr (pe_bm0 PySem.F.plainAttrs_list PySem.F.slot_list_reverse PySem.F.type_list_reverse mt_reverse (pv 7)))) pss_nil)
      (pss_one (ps_ret (pe_tup (pa_cons pe_str (pa_cons (pv 5) (pa_cons (pe_ix (ixA hr.units) (pv 7) pe_int (fun _ _ => rfl)) (pa_cons (pe_ix (ixA hr.units) (pv 7) pe_int (fun _ _ => rfl)) pa_nil))))))))))) pss_nil)
      (pss_cons (ps_asg (pe_ix (ixA hr.units) (pv 4) (pe_op op_mod (pe_op op_fdiv (pv 2) pe_int) (pe_callB call_lenA (by rfl) (B.free 43 _ rfl) PySem.boot_len (pa_cons (pv 4) pa_nil))) (fun _ _ => rfl)) (pg_tup (n := 2) rfl (pgs_cons (pg_name (i := 8) sc_w_grown.nd rfl (.inl rfl)) (pgs_cons (pg_name (i := 9) sc_w_grown.nd rfl (.inl rfl)) pgs_nil))))
      (pss_one (ps_ret (pe_tup (pa_cons pe_str (pa_cons (pe_ix (ixA hr.units) (pv 8) pe_int (fun _ _ => rfl)) (pa_cons (pe_fn H_w_grown (hr.mono (by omega)) (by rfl) (pa_cons (pv 0) (pa_cons (pv 9) (pa_cons (pe_op op_plus (pv 2) pe_int) (pa_cons (pe_op op_sub (pv 3) pe_int) pa_nil))))) pa_nil)))))))))))), fun rs n Q h => ?walk⟩), B.glo 32 _ rfl, F.kp, .nil, F.bindsN fun _ _ _ _ _ _ us hl => match us, hl with | [_, _, _, _], _ => rfl⟩
  case len =>
    obtain ⟨_, _, _, _, rfl, _⟩ := h
    rfl
  case walk =>
    obtain ⟨W, s, a, deep, rfl, hW, hA, hs, hd1, hd2, hd3, hQ⟩ := h
    show SW _ _ [.d W.enc, .d s.enc, .d (.int a), .d (.int deep), .u, .u, .u, .u, .u, .u, .u] n _
    dsimp only [cxOf]
    have h2 : 2 ^ (m + 1) = 2 * 2 ^ m := by rw [Nat.pow_succ, Nat.mul_comm]
    have h5 : 1 ≤ 2 ^ m := Nat.one_le_pow _ _ (by decide)
    have hdl := hW.dds
    have hDone : Q (.d (Tree.enc .done)) n := hQ .done trivial (by show 1 ≤ m + 1; omega) (by rw [h2]; show 1 < _; omega)
    walk_at "go"
    refine ⟨a, deep, rfl, by omega, by omega, fun v hv => ⟨rfl, ?_⟩⟩
    walk_at "go"
    refine ⟨by rw [List.length_map]; omega, comp_mapE Deed.enc (fun d => .tuple [d.enc, staD (done W.counts d s)]) _ _ (fun d hd => ?_) ?_⟩
    · walk_at "put1"
      walk_at "go"
      refine ⟨W, d, s, rfl, hs, hW.deeds d hd, rfl, ?_⟩
      walk_at "go"
    · rw [List.nil_append]
      walk_at "go"
      refine ⟨by rw [List.length_map]; omega, comp_fmE (fun d => .tuple [d.enc, staD (done W.counts d s)]) (fun d => (done W.counts d s).isSome) (fun d => .tuple [d.enc, staD (done W.counts d s)]) _ _ (fun d hd => ?_) ?_⟩
      · walk_at "put1"
        walk_at "go"
        rw [none_sta, Bool.not_not]
        exact ⟨rfl, fun _ => by walk_at "go"⟩
      · rw [List.nil_append]
        walk_at "go"
        refine br_2 (fun b1 => ?_) (fun b1 => ?_)
        · walk_at "go"
          exact hDone
        · have b1 := of_decide_eq_false b1
          walk_at "go"
          refine br_2 (fun b2 => ?_) (fun b2 => ?_)
          · walk_at "go"
            exact hDone
          · walk_at "go"
            refine ⟨W.wish, s, rfl, hW.wdep, by rw [hs]; exact hW.wish, rfl, ?_⟩
            walk_at "go"
            refine br_2 (fun b3 => ?_) (fun b3 => ?_)
            · walk_at "go"
              refine br_2 (fun b4 => ?_) (fun b4 => ?_)
              · walk_at "go"
                exact hDone
              · walk_at "go"
                refine br_2 (fun c1 => ?_) (fun c1 => ?_)
                · walk_at "go"
                  obtain ⟨j, ej, hj⟩ := nat_mod (v / 4) hA
                  have hat := hW.atoms
                  rw [ej]
                  refine ow_intC ⟨by omega, by omega, by decide⟩ ?_
                  rw [pow_cast]
                  walk_at "go"
                  rw [bitXor_nat]
                  refine ⟨W, s, v, deep - 1, rfl, hW, hA, hs, by omega, by omega, by omega, fun t h6 h7 h8 => ⟨rfl, ?_⟩⟩
                  walk_at "go"
                  refine ⟨W, ⟨(s.bits ||| 2 ^ j) - (s.bits &&& 2 ^ j), s.am⟩, v + 1, deep - 1, rfl, hW, hA, hs, by omega, by omega, by omega, fun t2 g6 g7 g8 => ⟨rfl, ?_⟩⟩
                  walk_at "go"
                  refine br_2 (fun c2 => ?_) (fun c2 => ?_)
                  · walk_at "go"
                    refine ow_ixL (.inr rfl) (d := t2.enc) rfl ?_
                    walk_at "go"
                    refine ow_ixL (.inr rfl) (d := t.enc) rfl ?_
                    walk_at "go"
                    exact hQ (.ask j t2 t) ⟨hj, g6, h6⟩ (by show max t2.deep t.deep + 1 ≤ _; omega) (by rw [h2]; show t2.size + t.size + 1 < _; omega)
                  · walk_at "go"
                    refine ow_ixL (.inr rfl) (d := t.enc) rfl ?_
                    walk_at "go"
                    refine ow_ixL (.inr rfl) (d := t2.enc) rfl ?_
                    walk_at "go"
                    exact hQ (.ask j t t2) ⟨hj, h6, g6⟩ (by show max t.deep t2.deep + 1 ≤ _; omega) (by rw [h2]; show t.size + t2.size + 1 < _; omega)
                · have hlen : 0 < (List.map (fun d => PyData.tuple [d.enc, staD (done W.counts d s)]) (List.filter (fun d => (done W.counts d s).isSome) W.deeds)).length := by
                    cases e : (List.map (fun d => PyData.tuple [d.enc, staD (done W.counts d s)]) (List.filter (fun d => (done W.counts d s).isSome) W.deeds)) with
                    | nil => rw [e] at b2; cases b2
                    | cons _ _ => exact Nat.succ_pos _
                  walk_at "go"
                  obtain ⟨x, ex, hx3⟩ := atI_mem (xs := List.map (fun d => PyData.tuple [d.enc, staD (done W.counts d s)]) (List.filter (fun d => (done W.counts d s).isSome) W.deeds)) (i := v / 4 % ((List.map (fun d => PyData.tuple [d.enc, staD (done W.counts d s)]) (List.filter (fun d => (done W.counts d s).isSome) W.deeds)).length : Nat)) (Int.emod_nonneg _ (by omega)) (Int.emod_lt_of_pos _ (by omega))
                  refine ow_ixL (.inr rfl) ex ?_
                  obtain ⟨d, hd, rfl⟩ := List.mem_map.1 hx3
                  obtain ⟨hd6, hd7⟩ := List.mem_filter.1 hd
                  cases ed : done W.counts d s with
                  | none => rw [ed] at hd7; cases hd7
                  | some s' =>
                    walk_at "go"
                    refine ⟨W, s', v + 2, deep - 1, rfl, hW, hA, (done_some ed).trans hs, by omega, by omega, by omega, fun t h6 h7 h8 => ⟨rfl, ?_⟩⟩
                    walk_at "go"
                    exact hQ (.doo _ t) ⟨⟨d, hd6, rfl⟩, h6⟩ (by show t.deep + 1 ≤ _; omega) (by rw [h2]; show t.size + 1 < _; omega)
            · walk_at "go"
              refine br_2 (fun c1 => ?_) (fun c1 => ?_)
              · walk_at "go"
                obtain ⟨j, ej, hj⟩ := nat_mod (v / 4) hA
                have hat := hW.atoms
                rw [ej]
                refine ow_intC ⟨by omega, by omega, by decide⟩ ?_
                rw [pow_cast]
                walk_at "go"
                rw [bitXor_nat]
                refine ⟨W, s, v, deep - 1, rfl, hW, hA, hs, by omega, by omega, by omega, fun t h6 h7 h8 => ⟨rfl, ?_⟩⟩
                walk_at "go"
                refine ⟨W, ⟨(s.bits ||| 2 ^ j) - (s.bits &&& 2 ^ j), s.am⟩, v + 1, deep - 1, rfl, hW, hA, hs, by omega, by omega, by omega, fun t2 g6 g7 g8 => ⟨rfl, ?_⟩⟩
                walk_at "go"
                refine br_2 (fun c2 => ?_) (fun c2 => ?_)
                · walk_at "go"
                  refine ow_ixL (.inr rfl) (d := t2.enc) rfl ?_
                  walk_at "go"
                  refine ow_ixL (.inr rfl) (d := t.enc) rfl ?_
                  walk_at "go"
                  exact hQ (.ask j t2 t) ⟨hj, g6, h6⟩ (by show max t2.deep t.deep + 1 ≤ _; omega) (by rw [h2]; show t2.size + t.size + 1 < _; omega)
                · walk_at "go"
                  refine ow_ixL (.inr rfl) (d := t.enc) rfl ?_
                  walk_at "go"
                  refine ow_ixL (.inr rfl) (d := t2.enc) rfl ?_
                  walk_at "go"
                  exact hQ (.ask j t t2) ⟨hj, h6, g6⟩ (by show max t.deep t2.deep + 1 ≤ _; omega) (by rw [h2]; show t.size + t2.size + 1 < _; omega)
              · have hlen : 0 < (List.map (fun d => PyData.tuple [d.enc, staD (done W.counts d s)]) (List.filter (fun d => (done W.counts d s).isSome) W.deeds)).length := by
                  cases e : (List.map (fun d => PyData.tuple [d.enc, staD (done W.counts d s)]) (List.filter (fun d => (done W.counts d s).isSome) W.deeds)) with
                  | nil => rw [e] at b2; cases b2
                  | cons _ _ => exact Nat.succ_pos _
                walk_at "go"
                obtain ⟨x, ex, hx3⟩ := atI_mem (xs := List.map (fun d => PyData.tuple [d.enc, staD (done W.counts d s)]) (List.filter (fun d => (done W.counts d s).isSome) W.deeds)) (i := v / 4 % ((List.map (fun d => PyData.tuple [d.enc, staD (done W.counts d s)]) (List.filter (fun d => (done W.counts d s).isSome) W.deeds)).length : Nat)) (Int.emod_nonneg _ (by omega)) (Int.emod_lt_of_pos _ (by omega))
                refine ow_ixL (.inr rfl) ex ?_
                obtain ⟨d, hd, rfl⟩ := List.mem_map.1 hx3
                obtain ⟨hd6, hd7⟩ := List.mem_filter.1 hd
                cases ed : done W.counts d s with
                | none => rw [ed] at hd7; cases hd7
                | some s' =>
                  walk_at "go"
                  refine ⟨W, s', v + 2, deep - 1, rfl, hW, hA, (done_some ed).trans hs, by omega, by omega, by omega, fun t h6 h7 h8 => ⟨rfl, ?_⟩⟩
                  walk_at "go"
                  exact hQ (.doo _ t) ⟨⟨d, hd6, rfl⟩, h6⟩ (by show t.deep + 1 ≤ _; omega) (by rw [h2]; show t.size + 1 < _; omega)
theorem fn_w_grown (B : Bs K mg) (HM : Fn P w K mg base ns "_law_mixed" 1 ["_law_number", "_law_k"] [] sp_w_mixed) (HD : Fn P w K mg base ns "_law_done" 9 ["_law_plain", "_law_deed_here", "_law_state"] [] sp_w_done) (HH : Fn P w K mg base ns "_law_holds" 8 ["_law_condition_here", "_law_state"] [] (sp_holds 8)) :
    ∀ m : Nat, Fn P w K mg base ns "_law_grown" (9 + m) ["_law_plain", "_law_state", "_law_number", "_law_deep"] [] (sp_w_grown m)
  | 0 => vac_w_grown B fun rs n Q h => by
    obtain ⟨W, s, a, deep, _, _, _, _, h1, h2, _⟩ := h
    omega
  | m + 1 => ok_w_grown B (H_w_mixed := HM) (H_w_done := HD) (H_w_holds := HH) (H_w_grown := fn_w_grown B HM HD HH m)
end
end Dd
set_option Elab.async false
set_option linter.all false
set_option maxRecDepth 100000
set_option autoImplicit false
/-! Po: defs whose promise holds where no repr is under way (repr's guards are empty); the law's call. -/
namespace Dd
open PySem PySem.Spec PyProof.Rows L2 Dl
section
variable {P : Program} {w : World} {K : PySem.W.Frag} {mg : Str → Option Value} {base : Heap}
structure FnOkG (P : Program) (w : World) (K : PySem.W.Frag) (mg : Str → Option Value) (base : Heap) (k : Nat) (f : Addr) (fd : FuncData) (ps : List Str) (sp : Sp) : Prop where
  len : ∀ vs H Q E, sp vs H Q E → vs.length = ps.length
  run : ∀ (A : Around) (outer : List Env) (s : Shared) (H : Hp) (args : Args) (us : List Value) (vs : List V) (Q : VK) (E : XK), Room k A → A.guards = some [] → Env0 P w K mg base A outer s H →
    BindsTo s fd args (ps.zip us) → Vals vs us → sp vs H Q E → codeAny (model P w) A (.call (.ref f) args) (CR CX0 outer P w H s Q E) s
theorem guards_deeper (A : Around) (e : Env) : (A.deeper e).guards = A.guards := rfl
theorem okG {x qual : Str} {params : Arguments} {body : List Stmt} {scope : Scope} {dvs : List V} {kws : List (Str × V)} {f : Addr} {fd : FuncData} {N ps : List Str} {k : Nat} {sp : Sp} (F : FunD K x qual params body scope dvs kws f fd) (S : FnScope N ps scope)
    (hl : ∀ vs H Q E, sp vs H Q E → vs.length = ps.length)
    (hb : ∀ (cdv : Value) (A : Around) (outer : List Env) (s : Shared) (H : Hp) (vs : List V) (Q : VK) (E : XK), Room k (A.deeper (envOfC qual scope s.heap.objs.size f cdv)) → A.guards = some [] → sp vs H Q E →
      ∃ t, PSs (cxOf CX0 P w K mg base N qual scope f cdv A outer s H E) body t ∧ t { nx := fun _ H' => Q .non H', rt := Q } (start N vs) H) : FnOkG P w K mg base (k + 1) f fd ps sp := by
  obtain ⟨_, _, _, _, _, _, _, cdv, _, _, rfl, look, code, _, _⟩ := F.ex
  refine ⟨hl, fun A outer s H args us vs Q E room guard env bind rel promise => ?_⟩
  have many := hl _ _ _ _ promise
  have inK : K.In s.heap := env.mod.kin.keeps fun b o z => (env.bs b o z).1
  have noLim : s.heap.NoLimit := env.mod.nolimit.keeps fun b o z => (env.bs b o z).1
  refine codeAny_call_function room.depth (inK _ _ look) rfl S.co S.gen rfl (PySem.W.codeRec_of inK code) (bind _ _ _ _ ?_)
  refine wpAny_newFunctionEnv_cells S.kind (fun y hy => ?_) fun env1 same s1 entered => ?_
  · obtain ⟨nm, val⟩ := y
    cases S.par nm (List.of_mem_zip hy).1 with
    | inl q => exact .inl q
    | inr q => exact .inr ⟨q, PySem.W.cellsFrom_some _ _ _ (.inl q)⟩
  · subst same
    obtain ⟨t, ht, goal⟩ := hb cdv A outer s H vs Q E (room.deeper _) guard promise
    have start : Inv (cxOf CX0 P w K mg base N qual scope f cdv A outer s H E) [] (start N vs) H s1 := inv_start S room.hd env many rel entered
    refine ⟨noLim.keeps entered.toInCall.keep, codeAny_func (wpAny_mono (ht.run [] s1 _ H _ start goal) (fun flow s2 ends => ?_) fun _ _ z => z)⟩
    cases flow with
    | ret u =>
      obtain ⟨v, _, H2, J, r, q⟩ := ends
      exact ⟨v, H2, J.os, J.bare, J.base, J.hok, r, q⟩
    | next =>
      obtain ⟨_, H2, J, q⟩ := ends
      exact ⟨V.non, H2, J.os, J.bare, J.base, J.hok, rfl, q⟩
    | brk => exact ends.elim fun _ z => z.elim fun _ z => z.2.elim
    | cont => exact ends.elim fun _ z => z.elim fun _ z => z.2.elim
theorem okDG {x qual : Str} {params : Arguments} {body : List Stmt} {scope : Scope} {dvs : List V} {kws : List (Str × V)} {f : Addr} {fd : FuncData} {N ps : List Str} {k : Nat} {sp : DSpec} {ns : List Int}
    (F : FunD K x qual params body scope dvs kws f fd) (S : FnScope N ps scope) (len : ∀ rs n Q, sp rs n Q → rs.length = ps.length)
    (hbody : ∀ (cdv : Value) (A : Around) (outer : List Env) (s : Shared) (H : Hp) (E : XK), Room k (A.deeper (envOfC qual scope s.heap.objs.size f cdv)) → (A.deeper (envOfC qual scope s.heap.objs.size f cdv)).guards = some [] →
      ∃ t, PSs (cxOf CX0 P w K mg base N qual scope f cdv A outer s H E) body t ∧ ∀ rs n Q, sp rs n Q → SW ⟨K, ns, w⟩ t (rs ++ List.replicate (N.length - rs.length) .u) n { nx := fun _ n' => Q (.d .none) n', rt := Q }) :
    FnOkG P w K mg base (k + 1) f fd ps (spOf ⟨K, ns, w⟩ sp) := by
  have lps : ps.length ≤ N.length := by
    have h := congrArg List.length S.pre
    rw [List.length_take] at h
    omega
  refine okG F S (fun vs H Q E h => ?_) (fun cdv A outer s H vs Q E hr hg h => ?_)
  · obtain ⟨C, n, rs, Qd, _, _, _, r, _, h, _⟩ := h
    rw [← Paired.length r]
    exact len rs n Qd h
  · obtain ⟨t, ht, hw⟩ := hbody cdv A outer s H E hr hg
    obtain ⟨C, n, rs, Qd, hP, hH, hf, r, ha, h, kk⟩ := h
    have lv : vs.length ≤ N.length := by
      rw [← Paired.length r, len rs n Qd h]
      exact lps
    refine ⟨t, ht, hw rs n Qd h C (L2.start N vs) H _ hP (good_start (P := ⟨K, ns, w⟩) lv hf r ha) ?_⟩
    subst hH
    have kp : ∀ {n' : Int} {H' : Hp}, Frm C n' H' → Keep C C.H_0 H' := fun f a o e z => f.fr a o e z
    exact ⟨fun G1 n1 σ1 H1 d g1 => kk _ n1 _ H1 d (kp g1.frm) g1.frm.dr (show DT H1 _ _ from .non) (fun _ e => nomatch e),
      fun r1 n1 v1 H1 d f1 rp fr => kk r1 n1 v1 H1 d (kp f1) f1.dr rp fr, fun _ _ _ _ d => False.elim d, fun _ _ _ _ d => False.elim d⟩
end
/-- such a def, as its callers want it -/
structure FnG (P : Program) (w : World) (K : PySem.W.Frag) (mg : Str → Option Value) (base : Heap) (ns : List Int) (x : Str) (k : Nat) (ps : List Str) (sp : DSpec) : Prop where
  ex : ∃ f fd, FnOkG P w K mg base k f fd ps (spOf ⟨K, ns, w⟩ sp) ∧ mg x = some (.ref f) ∧ PySem.W.keepIn K (.ref f) = true ∧ Binds K fd ps []
theorem pe_fnG {X : Cx} {ns : List Int} {x : Str} {k : Nat} {ps : List Str} {sp : DSpec} {p pos : Pos} {e : Expr} {es : List Expr} {t : TA} (F : FnG X.prog X.w X.K X.mg X.base ns x k ps sp) (hr : Room k X.A) (guard : X.A.guards = some []) (hg : Gl X x)
    (ha : PA X (e :: es) t) (hdb : (x == ("__debug__" : Str)) = false := by decide) (he : starEach (e :: es) X.env = (false, eval e X.env) :: starEach es X.env := by rfl) (hpl : (backTo pos (starEach es X.env)).any (·.1) = false := by rfl) :
    PE X (.Call (.Name x p) (e :: es) [] pos) (tCall (spOf ⟨X.K, ns, X.w⟩ sp) [] E0 t) := by
  obtain ⟨f, fd, ok, name, keep, bind⟩ := F.ex
  refine ⟨fun pins s σ H Q I h => wpAny_Call_Name_kw (ld_glob I hg name ?_ hdb)⟩
  refine PySem.W.callWith_K (h₀ := X.base) I.ok.mod.kin keep (thn (ha.run pos pins s σ H _ I h) fun us s1 ⟨vs, H1, I1, r, q⟩ => ⟨I1.kIn, ?_⟩) he hpl
  have q : spOf ⟨X.K, ns, X.w⟩ sp (vs ++ []) H1 Q E0 := q
  rw [List.append_nil] at q
  have many : us.length = ps.length := by
    rw [← r.length]
    exact ok.len _ _ _ _ q
  have bound := bind s1 us I1.kIn (by rw [List.append_nil]; exact many)
  rw [List.append_nil] at bound
  refine wpAny_call (codeAny_mono (ok.run X.A X.stack s1 H1 ⟨us, []⟩ us vs Q E0 hr guard I1.env0 bound r q) fun res s2 hq => ?_)
  cases res with
  | error z => exact pass0 pins σ H1 s1 z s2 I1 hq
  | ok fl =>
    cases fl with
    | ret u => exact I1.after hq
    | next => exact hq.elim
    | brk => exact hq.elim
    | cont => exact hq.elim
/-! ### the law's call -/
section
variable {P : Program} {w : World} {K : PySem.W.Frag} {mg mb : Str → Option Value} {k : Nat} {fa a : Addr} {x : Str} {sp : Sp} {s₁ : Shared} {vs : List Value} {ns : List Int}
/-- from an abstract heap in which nothing but the script may stand -/
theorem law_from (KX : K.In s₁.heap) (names : s₁.heap.Ns mainGlobals mg) (bnames : s₁.heap.Ns builtinsNs mb) (boot : ∀ x : Str, x ≠ "__name__" → mb x = bootBuiltins x) (noLim : s₁.heap.NoLimit) (gens : s₁.gens = #[])
    (there : s₁.heap.get? a = some { cls := .type "list", data := .seq vs.toArray }) (room : Room k callerA)
    (F : ∀ base : Heap, K.In base → base.Ns mainGlobals mg → ∃ fd, FnOkG P w K mg base k fa fd [x] sp ∧ ∀ (s : Shared) (u : Value), K.In s.heap → BindsTo s fd ⟨[u], []⟩ [(x, u)])
    (H : Hp) (only : Only H) (promise : sp [.ref a] H (fun v _ => v = .bl true) fun _ _ _ => False) (ok : HOk P w H s₁.heap) (alone : ∀ b, H b ≠ none → b = a) (notK : H a ≠ none → K.lookup a = none) :
    codeAny (model P w) callerA (.call (.ref fa) ⟨[.ref a], []⟩) (fun r s' => r = .ok (.ret (.bool true)) ∧ OldK s₁.heap s'.heap ∧ s'.os = s₁.os ∧ AllBare s'.gens) s₁ := by
  have stays : ∀ {b : Addr} {o : Obj}, s₁.heap.get? b = some o → (b = a → H a = none) → (hidT s₁.heap H).get? b = some o := fun {b o} e n => by
    refine hidT_get e ?_
    cases q : H b with
    | none => rfl
    | some u =>
      have z : b = a := alone b (by rw [q]; simp)
      have n := n z
      rw [z, n] at q
      cases q
  have dict : ∀ {b : Addr} {o : Obj} {es : Array DictEntry} {ep : Nat}, s₁.heap.get? b = some o → o.data = .dict es ep → (b = a → H a = none) := fun {b o es ep} e d z => by
    rw [z, there] at e
    cases e
    have d : Data.seq vs.toArray _ = Data.dict es ep := d
    cases d
  have nsIn : ∀ {b : Addr} {m : Str → Option Value}, s₁.heap.Ns b m → (hidT s₁.heap H).Ns b m := fun {b m} z => by
    obtain ⟨o, es, ep, e, d, r⟩ := z
    exact ⟨o, es, ep, stays e (dict e d), d, r⟩
  have kIn : K.In (hidT s₁.heap H) := fun b o e => stays (KX b o e) fun z => by
    cases q : H a with
    | none => rfl
    | some u =>
      have n := notK (by rw [q]; simp)
      rw [z, n] at e
      cases e
  obtain ⟨mc, l1, l2⟩ := noLim
  have md : Mod K mg (hidT s₁.heap H) := ⟨kIn, nsIn names, ⟨mb, nsIn bnames, boot⟩, ⟨mc, nsIn l1, l2⟩⟩
  have env : Env0 P w K mg (hidT s₁.heap H) callerA [] s₁ H := ⟨rfl, md, fun b o e => of_hidT e, Nat.le_of_eq (hidT_size _ _), trivial, (fun b hb => by cases hb), ok, .of_eq gens⟩
  obtain ⟨fd, fok, bind⟩ := F _ kIn (nsIn names)
  refine codeAny_mono (fok.run callerA [] s₁ H ⟨[.ref a], []⟩ [.ref a] [.ref a] _ _ room rfl env (bind s₁ (.ref a) KX) (.cons rfl .nil) promise) fun r s' h => ?_
  cases r with
  | error e => exact h.elim
  | ok fl =>
    cases fl with
    | next => exact h.elim
    | brk => exact h.elim
    | cont => exact h.elim
    | ret u =>
      obtain ⟨v, H', os, bare, un, ok', rel, q⟩ := h
      have q : v = .bl true := q
      rw [q] at rel
      have rel : u = Value.bool true := rel
      rw [rel]
      refine ⟨rfl, OldK.of_keep fun b o e => ?_, os, bare⟩
      cases q : H b with
      | none => exact un.keep b o e q (fun z => by cases z) (by simp)
      | some u =>
        cases only b with
        | inl z => rw [q] at z; cases z
        | inr z =>
          obtain ⟨ob, xs, z⟩ := z
          have z2 := ok' b _ (un.frzs b ob _ z)
          have z1 := ok b _ z
          have e1 := z1.1
          rw [e] at e1
          cases e1
          exact z2.1
theorem law_callG (KX : K.In s₁.heap) (names : s₁.heap.Ns mainGlobals mg) (bnames : s₁.heap.Ns builtinsNs mb) (boot : ∀ x : Str, x ≠ "__name__" → mb x = bootBuiltins x) (noLim : s₁.heap.NoLimit) (gens : s₁.gens = #[])
    (there : s₁.heap.get? a = some { cls := .type "list", data := .seq vs.toArray }) (hints : IntsAre vs ns) (short : ns.length ≤ sizeLine) (room : Room k callerA)
    (F : ∀ base : Heap, K.In base → base.Ns mainGlobals mg → ∃ fd, FnOkG P w K mg base k fa fd [x] sp ∧ ∀ (s : Shared) (u : Value), K.In s.heap → BindsTo s fd ⟨[u], []⟩ [(x, u)])
    (promise : ∀ H : Hp, Only H → SqL K H a (ns.map V.int) → sp [.ref a] H (fun v _ => v = .bl true) fun _ _ _ => False) :
    codeAny (model P w) callerA (.call (.ref fa) ⟨[.ref a], []⟩) (fun r s' => r = .ok (.ret (.bool true)) ∧ OldK s₁.heap s'.heap ∧ s'.os = s₁.os ∧ AllBare s'.gens) s₁ := by
  have rel := vals_ints hints
  have len := hints.length
  cases hk : K.lookup a with
  | some o =>
    have e := KX a o hk
    rw [there] at e
    cases e
    have on : Only fun _ => none := fun _ => .inl rfl
    exact law_from KX names bnames boot noLim gens there room F _ on (promise _ on (.inr ⟨_, vs.toArray, _, hk, rfl, rfl, rfl, by rw [List.size_toArray, len]; exact short, by simpa using rel⟩)) (fun b u z => by cases z) (fun b z => absurd rfl z) fun z => absurd rfl z
  | none =>
    let ob : HO := .frz { cls := .type "list", data := .seq vs.toArray } (.lst (ns.map V.int))
    let H : Hp := fun b => if b = a then some ob else none
    have at_ : H a = some ob := if_pos rfl
    have no : ∀ b, b ≠ a → H b = none := fun b z => if_neg z
    have on : Only H := fun b => by
      by_cases z : b = a
      · rw [z]
        exact .inr ⟨_, _, at_⟩
      · exact .inl (no b z)
    refine law_from KX names bnames boot noLim gens there room F H on (promise H on (.inl (.inr ⟨_, at_⟩))) (fun b u z => ?_) (fun b z => ?_) fun _ => hk
    · by_cases y : b = a
      · rw [y] at z ⊢
        rw [at_] at z
        cases z
        exact ⟨there, by rw [List.length_map]; exact short, vs, _, rel, there⟩
      · rw [no b y] at z
        cases z
    · by_cases y : b = a
      · exact y
      · exact absurd (no b y) z
end
theorem walk_ofG {l : PySem.W.OpenLaw} {n k : Nat} {q : Program} {loose : List Str} {XP : (Str → Option Value) → Heap → Prop} {YP : World → Heap → Prop} {d : DefRec} {x : Str}
    (hn : l.most = some n) (hn2 : n ≤ sizeLine) (hdf : d.params.defaults = []) (hr : Room k callerA)
    (F : ∀ (w : World) (mg : Str → Option Value) (fa : Addr) (h : Heap), YP w h → h.Ns mainGlobals mg → mg d.name = some (.ref fa) →
      ∃ (K : PySem.W.Frag), K.In h ∧
        ∀ (a : Addr) (ns : List Int), ns.length ≤ n → ∃ sp : Sp, (∀ (H : Hp), Only H → SqL K H a (ns.map V.int) → sp [.ref a] H (fun v _ => v = .bl true) fun _ _ _ => False) ∧
        ∀ base : Heap, K.In base → base.Ns mainGlobals mg → ∃ fd, FnOkG l.prog w K mg base k fa fd [x] sp ∧ ∀ (s : Shared) (u : Value), K.In s.heap → BindsTo s fd ⟨[u], []⟩ [(x, u)]) :
    PySem.W.WalkO q loose XP YP l.row.toRowW d [] (fun f vs => PySem.call f vs) := by
  refine Att.attach_call hn hdf fun w s₀ s₁ mg mb fa o pm cd doc a vs ns G Y ho hd hcd hmg hobj hints hlen hg => ?_
  obtain ⟨K, inK, all⟩ := F w mg fa _ Y G.T.g hmg
  obtain ⟨sp, promise, ok⟩ := all a ns hlen
  exact law_callG inK G.T.g G.T.b G.T.builtins G.T.nolimit hg hobj hints (Nat.le_trans hlen hn2) hr ok promise
end Dd
set_option Elab.async false
set_option linter.all false
set_option maxRecDepth 100000
set_option autoImplicit false
/-! Md4: what fails can be shown: small numbers, depth, weight. -/
namespace Dl
open PySem PySem.Spec PyProof.Rows L2
theorem cw_reprT {P : Pm} {x : PyData} {Q : Rs → Prop} (hs : x.showable = true) (hi : x.intsShort 13 = true) (hm : x.depth ≤ 60) (hw : x.weight ≤ 2 ^ 20) (q : Q (.x x.shown)) : CW P (rRepr P.K) [.d x] Q := fun C n H vs R _ g rx k => by
  cases rx with
  | cons r rr =>
    cases rr
    have lay := DT.lay r
    have l0 : PyData.layable0 x = true := by
      show (PyData.canLay0 x && decide (PyData.depth x ≤ 64) && decide (PyData.weight x ≤ 2 ^ 20)) = true
      rw [lay, decide_eq_true (by omega), decide_eq_true hw]
      rfl
    have hz : x.shown.length ≤ sizeLine := Nat.le_trans (shown_le13 l0 hi) (by decide)
    exact ⟨_, x, rfl, DT.dp r, hs, lay, hm, hz, k _ _ H q (Keep.refl C H) g.dr rfl trivial⟩
end Dl
namespace Dd
open PySem PySem.Spec PyProof.Rows L2 Dl
structure Sh (x : PyData) (d w : Nat) : Prop where
  show_ : x.showable = true
  ints_ : x.intsShort 13 = true
  dep : x.depth ≤ d
  wt : x.weight ≤ w
theorem Sh.mono {x : PyData} {d w d' w' : Nat} (h : Sh x d w) (a : d ≤ d') (b : w ≤ w') : Sh x d' w' := ⟨h.show_, h.ints_, Nat.le_trans h.dep a, Nat.le_trans h.wt b⟩
theorem sh_str (s : Str) : Sh (.str s) 0 s.length := ⟨rfl, rfl, Nat.le_refl _, Nat.le_refl _⟩
theorem sh_non : Sh .none 0 0 := ⟨rfl, rfl, Nat.le_refl _, Nat.le_refl _⟩
theorem sh_int {z : Int} (h1 : -900000000000 ≤ z) (h2 : z ≤ 900000000000) : Sh (.int z) 0 41 := by
  have e : (2 : Nat) ^ 40 = 1099511627776 := by decide
  have hl : z.natAbs.log2 ≤ 39 := by
    by_cases h : z.natAbs = 0
    · rw [h]
      decide
    · have : z.natAbs.log2 < 40 := (Nat.log2_lt h).2 (by omega)
      omega
  refine ⟨?_, ?_, Nat.le_refl _, ?_⟩
  · show decide (z.natAbs.log2 < 1920) = true
    exact decide_eq_true (by omega)
  · refine intsShort_of_noneOrIn (lo := -999999999999) (hi := 999999999999) (by decide) (by decide) (.int z) ?_
    show (decide (_ < z) && decide (z < _)) = true
    rw [decide_eq_true (by omega), decide_eq_true (by omega)]
    rfl
  · show (if z == 0 then 0 else z.natAbs.log2 + 1) ≤ 41
    split <;> omega
theorem sh_all {d w : Nat} : ∀ {xs : List PyData}, (∀ x ∈ xs, Sh x d w) → PyData.showableAll xs = true ∧ PyData.intsShortAll 13 xs = true ∧ PyData.depthAll xs ≤ d ∧ PyData.weightAll xs ≤ xs.length * (w + 1)
  | [], _ => ⟨rfl, rfl, Nat.zero_le _, Nat.zero_le _⟩
  | x :: xs, h => by
    have a := h x (List.mem_cons_self ..)
    obtain ⟨b1, b2, b3, b4⟩ := sh_all fun y hy => h y (List.mem_cons_of_mem _ hy)
    refine ⟨?_, ?_, ?_, ?_⟩
    · simp only [PyData.showableAll, a.show_, b1, Bool.and_self]
    · simp only [PyData.intsShortAll, a.ints_, b2, Bool.and_self]
    · simp only [PyData.depthAll]
      have := a.dep
      omega
    · simp only [PyData.weightAll, List.length_cons]
      have := a.wt
      have e : (xs.length + 1) * (w + 1) = xs.length * (w + 1) + (w + 1) := by rw [Nat.add_mul, Nat.one_mul]
      omega
theorem sh_tup {d w : Nat} {xs : List PyData} (h : ∀ x ∈ xs, Sh x d w) : Sh (.tuple xs) (d + 1) (xs.length * (w + 1)) := by
  obtain ⟨b1, b2, b3, b4⟩ := sh_all h
  refine ⟨?_, ?_, ?_, ?_⟩
  · simpa only [PyData.showable] using b1
  · simpa only [PyData.intsShort] using b2
  · simp only [PyData.depth]
    omega
  · simpa only [PyData.weight] using b4
theorem sh_2 {a b : PyData} {d w1 w2 : Nat} (h1 : Sh a d w1) (h2 : Sh b d w2) : Sh (.tuple [a, b]) (d + 1) (w1 + w2 + 2) := by
  have x1 := h1.dep
  have x2 := h2.dep
  have y1 := h1.wt
  have y2 := h2.wt
  refine ⟨?_, ?_, ?_, ?_⟩
  · simp only [PyData.showable, PyData.showableAll, h1.show_, h2.show_, Bool.and_self]
  · simp only [PyData.intsShort, PyData.intsShortAll, h1.ints_, h2.ints_, Bool.and_self]
  · simp only [PyData.depth, PyData.depthAll]
    omega
  · simp only [PyData.weight, PyData.weightAll]
    omega
theorem sh_3 {a b c : PyData} {d w1 w2 w3 : Nat} (h1 : Sh a d w1) (h2 : Sh b d w2) (h3 : Sh c d w3) : Sh (.tuple [a, b, c]) (d + 1) (w1 + w2 + w3 + 3) := by
  have x1 := h1.dep
  have x2 := h2.dep
  have x3 := h3.dep
  have y1 := h1.wt
  have y2 := h2.wt
  have y3 := h3.wt
  refine ⟨?_, ?_, ?_, ?_⟩
  · simp only [PyData.showable, PyData.showableAll, h1.show_, h2.show_, h3.show_, Bool.and_self]
  · simp only [PyData.intsShort, PyData.intsShortAll, h1.ints_, h2.ints_, h3.ints_, Bool.and_self]
  · simp only [PyData.depth, PyData.depthAll]
    omega
  · simp only [PyData.weight, PyData.weightAll]
    omega
theorem sh_nat {k : Nat} (h : k ≤ 900000000000) : Sh (.int (k : Nat)) 0 41 := sh_int (by omega) (by omega)
theorem sh_cond : ∀ {c : Cond}, c.sm → Sh c.enc c.dep (200 * 2 ^ c.dep - 10)
  | .tru, _ => ⟨rfl, rfl, Nat.le_of_ble_eq_true rfl, Nat.le_of_ble_eq_true rfl⟩
  | .fls, _ => ⟨rfl, rfl, Nat.le_of_ble_eq_true rfl, Nat.le_of_ble_eq_true rfl⟩
  | .fact k, h => (sh_2 (sh_str "fact") (sh_nat (k := k) (by have h : k ≤ 1000 := h; omega))).mono (Nat.le_refl _) (by show 4 + 41 + 2 ≤ 200 * 2 ^ 1 - 10; decide)
  | .least k z, h => (sh_3 (sh_str "least") (sh_nat (k := k) (by have h := h.1; omega)) (sh_int (z := z) (by have h := h.2.1; omega) (by have h := h.2.2; omega))).mono (Nat.le_refl _) (by show 5 + 41 + 41 + 3 ≤ 200 * 2 ^ 1 - 10; decide)
  | .nt c, h => by
    have ih := sh_cond (c := c) h
    have e : 2 ^ (c.dep + 1) = 2 * 2 ^ c.dep := by rw [Nat.pow_succ, Nat.mul_comm]
    have p : 1 ≤ 2 ^ c.dep := Nat.one_le_pow _ _ (by decide)
    refine (sh_2 ((sh_str "not").mono (Nat.zero_le _) (Nat.le_refl _)) ih).mono (Nat.le_refl _) ?_
    show 3 + (200 * 2 ^ c.dep - 10) + 2 ≤ 200 * 2 ^ (c.dep + 1) - 10
    rw [e]
    omega
  | .an a b, h => by
    have ia := sh_cond (c := a) h.1
    have ib := sh_cond (c := b) h.2
    have pa : 2 ^ a.dep ≤ 2 ^ max a.dep b.dep := Nat.pow_le_pow_right (by decide) (Nat.le_max_left _ _)
    have pb : 2 ^ b.dep ≤ 2 ^ max a.dep b.dep := Nat.pow_le_pow_right (by decide) (Nat.le_max_right _ _)
    have e : 2 ^ (max a.dep b.dep + 1) = 2 * 2 ^ max a.dep b.dep := by rw [Nat.pow_succ, Nat.mul_comm]
    have p1 : 1 ≤ 2 ^ a.dep := Nat.one_le_pow _ _ (by decide)
    have p2 : 1 ≤ 2 ^ b.dep := Nat.one_le_pow _ _ (by decide)
    refine (sh_3 ((sh_str "and").mono (Nat.zero_le _) (Nat.le_refl _)) (ia.mono (Nat.le_max_left a.dep b.dep) (Nat.le_refl _)) (ib.mono (Nat.le_max_right a.dep b.dep) (Nat.le_refl _))).mono (Nat.le_refl _) ?_
    show 3 + (200 * 2 ^ a.dep - 10) + (200 * 2 ^ b.dep - 10) + 3 ≤ 200 * 2 ^ (max a.dep b.dep + 1) - 10
    rw [e]
    omega
  | .orr a b, h => by
    have ia := sh_cond (c := a) h.1
    have ib := sh_cond (c := b) h.2
    have pa : 2 ^ a.dep ≤ 2 ^ max a.dep b.dep := Nat.pow_le_pow_right (by decide) (Nat.le_max_left _ _)
    have pb : 2 ^ b.dep ≤ 2 ^ max a.dep b.dep := Nat.pow_le_pow_right (by decide) (Nat.le_max_right _ _)
    have e : 2 ^ (max a.dep b.dep + 1) = 2 * 2 ^ max a.dep b.dep := by rw [Nat.pow_succ, Nat.mul_comm]
    have p1 : 1 ≤ 2 ^ a.dep := Nat.one_le_pow _ _ (by decide)
    have p2 : 1 ≤ 2 ^ b.dep := Nat.one_le_pow _ _ (by decide)
    refine (sh_3 ((sh_str "or").mono (Nat.zero_le _) (Nat.le_refl _)) (ia.mono (Nat.le_max_left a.dep b.dep) (Nat.le_refl _)) (ib.mono (Nat.le_max_right a.dep b.dep) (Nat.le_refl _))).mono (Nat.le_refl _) ?_
    show 2 + (200 * 2 ^ a.dep - 10) + (200 * 2 ^ b.dep - 10) + 3 ≤ 200 * 2 ^ (max a.dep b.dep + 1) - 10
    rw [e]
    omega
theorem sh_cond8 {c : Cond} (h : c.sm) (d : c.dep ≤ 8) : Sh c.enc 8 60000 := by
  have p : 2 ^ c.dep ≤ 2 ^ 8 := Nat.pow_le_pow_right (by decide) d
  exact (sh_cond h).mono d (by omega)
theorem reason_dep : ∀ (c : Cond) (s : Sta), (reason c s).dep ≤ c.dep
  | .an a b, s => by
    rw [reason]
    have ia := reason_dep a s
    have ib := reason_dep b s
    show _ ≤ max a.dep b.dep + 1
    split <;> omega
  | .tru, _ => Nat.le_refl _
  | .fls, _ => Nat.le_refl _
  | .fact _, _ => Nat.le_refl _
  | .least _ _, _ => Nat.le_refl _
  | .nt _, _ => Nat.le_refl _
  | .orr _ _, _ => Nat.le_refl _
theorem reason_sm : ∀ (c : Cond) (s : Sta), c.sm → (reason c s).sm
  | .an a b, s, h => by
    rw [reason]
    have ia := reason_sm a s h.1
    have ib := reason_sm b s h.2
    split
    · exact ib
    · exact ia
  | .tru, _, h => h
  | .fls, _, h => h
  | .fact _, _, h => h
  | .least _ _, _, h => h
  | .nt _, _, h => h
  | .orr _ _, _, h => h
theorem beyond_mem {cs : List Cnt} {am : List Int} : ∀ {ms : List (Nat × Int)} {k : Nat}, beyond cs am ms = some k → ∃ m ∈ ms, m.1 = k
  | [], k, h => by
    rw [beyond] at h
    cases h
  | m :: ms, k, h => by
    rw [beyond] at h
    by_cases e : fits cs am m = true
    · rw [if_pos e] at h
      obtain ⟨x, hx, hk⟩ := beyond_mem h
      exact ⟨x, List.mem_cons_of_mem _ hx, hk⟩
    · rw [if_neg e] at h
      exact ⟨m, List.mem_cons_self .., Option.some.inj h⟩
theorem sh_lab {l : PyData} (h : LabSm l) : Sh l 2 100 := by
  obtain ⟨s, j, rfl, hs, hj⟩ := h
  have h1 := sh_tup (d := 0) (w := 20) (xs := List.replicate j (.str s)) fun x hx => by
    rw [List.eq_of_mem_replicate hx]
    exact (sh_str s).mono (Nat.le_refl _) hs
  rw [List.length_replicate] at h1
  refine (sh_2 ((sh_str s).mono (Nat.zero_le 1) hs) (h1.mono (Nat.le_refl _) (show j * 21 ≤ 42 by omega))).mono (Nat.le_refl _) (by decide)
theorem sh_fault {W : Wd} {d : Deed} {s : Sta} (hd : DeedOk W.counts.length d) (hm : d.need.sm) (hc : W.counts.length ≤ 3) : Sh (fault W.counts d s) 8 60000 := by
  unfold fault
  split
  · cases e : beyond W.counts s.am d.moves with
    | none => exact sh_non.mono (Nat.zero_le _) (Nat.zero_le _)
    | some k =>
      obtain ⟨m, h1, h2⟩ := beyond_mem e
      have := hd.mv m h1
      exact (sh_2 (sh_str "beyond") (sh_nat (k := k) (by omega))).mono (by decide) (by show 6 + 41 + 2 ≤ 60000; decide)
  · exact sh_cond8 (reason_sm _ s hm) (Nat.le_trans (reason_dep _ s) hd.ndep)
theorem sh_run {W : Wd} (O : WdOk W) (M : WdSm W) : ∀ (t : Tree) (s : Sta) (ps p : List PyData) (f : PyData), t.ok W → (∀ x ∈ ps, Sh x 3 200) → run W t s ps = some (p, f) → (∀ x ∈ p, Sh x 3 200) ∧ p.length ≤ ps.length + t.deep ∧ Sh f 8 60000
  | .done, s, ps, p, f, _, hp, h => by
    rw [run] at h
    split at h
    · cases h
    · cases h
      exact ⟨hp, Nat.le_add_right _ _, sh_cond8 (reason_sm _ s M.wish) (Nat.le_trans (reason_dep _ s) O.wdep)⟩
  | .doo l t, s, ps, p, f, ho, hp, h => by
    rw [run] at h
    obtain ⟨d, e, hd, hl⟩ := find_some ho.1
    rw [e] at h
    simp only at h
    split at h
    · have h1 := sh_run O M t (behind d s) _ p f ho.2 (fun x hx => by
        rcases List.mem_append.1 hx with hx | hx
        · exact hp x hx
        · rw [List.mem_singleton.1 hx, ← hl]
          exact (sh_2 ((sh_str "do").mono (Nat.zero_le 2) (Nat.le_refl _)) (sh_lab (M.labs d hd))).mono (Nat.le_refl _) (by show 2 + 100 + 2 ≤ 200; decide)) h
      obtain ⟨a, b, c⟩ := h1
      rw [List.length_append] at b
      exact ⟨a, by show _ ≤ ps.length + (t.deep + 1); have b : p.length ≤ ps.length + 1 + t.deep := b; omega, c⟩
    · cases h
      exact ⟨hp, Nat.le_add_right _ _, sh_fault (O.deeds d hd) (M.needs d hd) O.cnts⟩
  | .ask k a b, s, ps, p, f, ho, hp, h => by
    have hk : k < W.atoms.length := ho.1
    have h12 := O.atoms
    have one : ∀ (z : Int), z = 0 ∨ z = 1 → ∀ x ∈ ps ++ [PyData.tuple [.str "ask", .int (k : Nat), .int z]], Sh x 3 200 := fun z hz x hx => by
      rcases List.mem_append.1 hx with hx | hx
      · exact hp x hx
      · rw [List.mem_singleton.1 hx]
        exact (sh_3 (sh_str "ask") (sh_nat (k := k) (by omega)) (sh_int (z := z) (by omega) (by omega))).mono (by decide) (by show 3 + 41 + 41 + 3 ≤ 200; decide)
    rw [run] at h
    split at h
    · obtain ⟨x, y, z⟩ := sh_run O M a s _ p f ho.2.1 (one 1 (.inr rfl)) h
      rw [List.length_append] at y
      exact ⟨x, by show _ ≤ ps.length + (max a.deep b.deep + 1); have y : p.length ≤ ps.length + 1 + a.deep := y; omega, z⟩
    · obtain ⟨x, y, z⟩ := sh_run O M b s _ p f ho.2.2 (one 0 (.inl rfl)) h
      rw [List.length_append] at y
      exact ⟨x, by show _ ≤ ps.length + (max a.deep b.deep + 1); have y : p.length ≤ ps.length + 1 + b.deep := y; omega, z⟩
/-- a state of a world of small numbers -/
theorem sh_sta {W : Wd} {s : Sta} (O : WdOk W) (M : WdSm W) (h : StaIn W s) : Sh s.enc 2 400 := by
  have hb := h.bits
  have p : 2 ^ W.atoms.length ≤ 2 ^ 12 := Nat.pow_le_pow_right (by decide) O.atoms
  have h1 := sh_tup (d := 0) (w := 41) (xs := s.am.map PyData.int) fun x hx => by
    obtain ⟨z, hz, rfl⟩ := List.mem_map.1 hx
    obtain ⟨i, hi⟩ := List.mem_iff_getElem?.1 hz
    have il : i < s.am.length := (List.getElem?_eq_some_iff.1 hi).1
    have ic : i < W.counts.length := h.len ▸ il
    rw [amt_at il] at hi
    have e : amt s.am i = z := Option.some.inj hi
    obtain ⟨a, b⟩ := h.am i ic
    obtain ⟨c1, c2, c3⟩ := cnt_ok M.cnts ic
    exact sh_int (by omega) (by omega)
  rw [List.length_map, h.len] at h1
  have hc := O.cnts
  exact (sh_2 ((sh_nat (k := s.bits) (by omega)).mono (Nat.zero_le 1) (Nat.le_refl _)) (h1.mono (Nat.le_refl _) (show W.counts.length * 42 ≤ 126 by omega))).mono (Nat.le_refl _) (by decide)
theorem sh_failing {W : Wd} {s : Sta} {t : Tree} (O : WdOk W) (M : WdSm W) (h : StaIn W s) (ho : t.ok W) (hd : t.deep ≤ 20) : Sh (failing W t s) 10 100000 := by
  unfold failing
  cases e : run W t s [] with
  | none => exact sh_non.mono (Nat.zero_le _) (Nat.zero_le _)
  | some pf =>
    obtain ⟨p, f⟩ := pf
    obtain ⟨a, b, c⟩ := sh_run O M t s [] p f ho (fun x hx => by cases hx) e
    have b : p.length ≤ 20 := Nat.le_trans b (by show 0 + t.deep ≤ 20; omega)
    have hp := (sh_tup a).mono (show 3 + 1 ≤ 9 by decide) (show p.length * 201 ≤ 4020 by omega)
    exact (sh_3 ((sh_sta O M h).mono (show 2 ≤ 9 by decide) (Nat.le_refl _)) hp (c.mono (show 8 ≤ 9 by decide) (Nat.le_refl _))).mono (Nat.le_refl _) (by decide)
theorem sh_fails {W : Wd} {t : Tree} (O : WdOk W) (M : WdSm W) (ho : t.ok W) (hd : t.deep ≤ 20) : ∀ {ss : List Sta}, (∀ s ∈ ss, StaIn W s) → Sh (fails W t ss) 10 100000
  | [], _ => sh_non.mono (Nat.zero_le _) (Nat.zero_le _)
  | s :: ss, h => by
    rw [fails]
    split
    · exact sh_fails O M ho hd fun x hx => h x (List.mem_cons_of_mem _ hx)
    · exact sh_failing O M (h s (List.mem_cons_self ..)) ho hd
end Dd
set_option Elab.async false
set_option linter.all false
set_option maxRecDepth 100000
set_option autoImplicit false
set_option maxHeartbeats 1000000
/-! Pq: the long tree. -/
namespace Dd
open PySem PySem.Spec PyProof.Rows L2 Dl
local macro_rules | `(tactic| walk_at "dx.var") => `(tactic| ((with_reducible show EW _ (tVar _) _ _ _); first
  | (refine ew_varD rfl ?_) | (refine ew_varR rfl ?_) | (refine ew_varL rfl ?_) | (refine ew_varW rfl ?_) | (refine ew_varS rfl ?_) | (refine ew_varT rfl ?_)))
local macro_rules | `(tactic| walk_at "dx.ew") => `(tactic| first
  | (walk_at "dx.var")
  | (with_reducible refine ew_int ?_) | ((with_reducible refine ew_str ?hh ?_); (case hh => decide +kernel)) | (with_reducible refine ew_bl ?_) | (with_reducible refine ew_non ?_)
  | ((with_reducible show EW _ (tOp (rIxA _ _) (tVar _) (tC (.int 0))) _ _ _); refine ew_w0 rfl ?_) | ((with_reducible show EW _ (tOp (rIxA _ _) (tVar _) (tC (.int 1))) _ _ _); refine ew_w1 rfl ?_)
  | (with_reducible refine ew_op ?_) | (with_reducible refine ew_un ?_) | (with_reducible refine ew_tupE ?_) | (with_reducible refine ew_lstE ?_) | (with_reducible refine ew_isi ?_) | (with_reducible refine ew_cb ?_)
  | (with_reducible refine ew_andV ?_) | (with_reducible refine ew_orV ?_) | (with_reducible refine ew_notV ?_) | ((with_reducible refine ew_callWv ?hw ?_); (case hw => exact rfl)) | (with_reducible refine ew_call ?_) | (with_reducible refine ew_callD ?_) | ((with_reducible refine ew_lc1 ?hq ?_); (case hq => exact rfl)) | ((with_reducible refine ew_lc2 ?hq ?hq2 ?_); (case hq => exact rfl); (case hq2 => exact rfl)) | (with_reducible refine ew_if ?_) | (with_reducible refine ew_chain ?_) | (with_reducible refine ew_sl ?_) | (with_reducible refine ew_bmS ?_) | (with_reducible refine ew_back ?_))
local macro_rules | `(tactic| walk_at "dx.ow") => `(tactic| first
  | (with_reducible refine ow_addI ?_) | (with_reducible refine ow_eqI ?_) | (with_reducible refine ow_eqS ?_) | (with_reducible refine ow_neI ?_) | (with_reducible refine ow_neS ?_) | (with_reducible refine ow_neN (.inr rfl) (.inl rfl) ?_) | (with_reducible refine ow_eqN (.inr rfl) (.inl rfl) ?_) | ((with_reducible refine ow_inT ?hmm ?_); (case hmm => exact Nat.le_of_ble_eq_true rfl)) | (with_reducible refine ow_isN ?_) | (with_reducible refine ow_noN ?_)
  | (with_reducible refine ow_intB ?_) | (with_reducible refine ow_int ?_) | ((with_reducible refine ow_intC ?hc ?_); (case hc => first | decide | omega | exact ⟨by decide, by decide⟩ | exact ⟨by omega, by omega⟩ | exact ⟨by decide, by decide, by decide⟩ | exact ⟨by omega, by omega, by decide⟩))
  | ((with_reducible refine ow_mulI ?hcm ?_); (case hcm => first | exact Or.inl ⟨by decide, by decide⟩ | exact Or.inr ⟨by decide, by decide⟩ | exact Or.inl ⟨by omega, by omega⟩ | exact Or.inr ⟨by omega, by omega⟩))
  | ((with_reducible show OW _ (rIxA _ _) (Rs.d _) (Rs.d _) _); refine ow_ixT rfl ?_))
local macro_rules | `(tactic| walk_at "dx.sw") => `(tactic| first
  | (walk_at "dx.for") | (with_reducible refine sw_seq ?_) | (with_reducible refine sw_next ?_) | ((with_reducible show SW _ (tDrop (tCall _ _ _ _)) _ _ _); refine sw_expr ?_) | (with_reducible refine sw_cont ?_) | (with_reducible refine sw_ret ?_) | (with_reducible refine sw_retN ?_) | (with_reducible refine sw_if ?_)
  | ((with_reducible show SW _ (tAsg (tBM0 _ _ rPop (tVar _)) _) _ _ _); refine sw_pop2 (Nat.le_of_ble_eq_true rfl) (Nat.le_of_ble_eq_true rfl) rfl ?_; dsimp only [List.set])
  | ((with_reducible show SW _ (tDrop (tBM _ _ rExtend _ _)) _ _ _); refine sw_extend rfl ?_) | ((with_reducible show SW _ (tDrop (tBM0 _ _ rReverse _)) _ _ _); refine sw_reverse rfl ?_)
  | ((with_reducible show SW _ (tAsg _ (gSub (tVar _) _ _)) _ _ _); first | (refine sw_draw rfl ?_) | (refine sw_store rfl ?_))
  | ((with_reducible refine sw_aliasL (xs := ?xs) ?hi ?hal ?_); (case hal => exact rfl); (case hi => exact Nat.le_of_ble_eq_true rfl); dsimp only [List.set])
  | ((with_reducible refine sw_set ?hi ?_); (case hi => exact Nat.le_of_ble_eq_true rfl))
  | ((with_reducible refine sw_par ?hi ?hj ?_); (case hi => exact Nat.le_of_ble_eq_true rfl); (case hj => exact Nat.le_of_ble_eq_true rfl); dsimp only [List.set])
  | ((with_reducible refine sw_asg2 ?hi ?hj ?_); (case hi => exact Nat.le_of_ble_eq_true rfl); (case hj => exact Nat.le_of_ble_eq_true rfl); dsimp only [List.set])
  | ((with_reducible refine sw_asg3 ?hi ?hj ?hk ?_); (case hi => exact Nat.le_of_ble_eq_true rfl); (case hj => exact Nat.le_of_ble_eq_true rfl); (case hk => exact Nat.le_of_ble_eq_true rfl); dsimp only [List.set])
  | ((with_reducible refine sw_aug (a := ?aa) ?hi ?_); (case hi => exact rfl); dsimp only [List.set]))
local macro_rules | `(tactic| walk_at "dx.for") => `(tactic| first
  | (with_reducible refine sw_for1 ?_) | (with_reducible refine sw_for2 ?_))
local macro_rules | `(tactic| walk_at "dx.misc") => `(tactic| first
  | (with_reducible refine ea_cons ?_) | (with_reducible refine ea_nil ?_)
  | (with_reducible refine tw_test ?_) | (with_reducible refine tw_B ?_) | (with_reducible refine tw_and ?_) | (with_reducible refine tw_or ?_) | (with_reducible refine tw_not ?_) | (with_reducible refine tw_yes ?_)
  | (with_reducible refine wi_tup ?_) | (with_reducible refine wi_enumT ?_) | (with_reducible refine wi_zipT ?_) | (with_reducible refine wi_rev ?_) | (with_reducible refine wi_range ?_) | (refine wi_enum rfl ?_) | (refine wi_var rfl ?_) | ((with_reducible show WI _ (iList _ (tCall _ _ _ _)) _ _ _); refine wi_new ?_) | (with_reducible refine uw_int ?_) | (with_reducible refine op_no ?_) | (with_reducible refine op_int ?_)
  | ((with_reducible show Br (decide ((_ : Int) < _)) _ _); first | (refine br_t rfl ?_) | (refine br_f rfl ?_)) | ((with_reducible show Br (decide ((_ : Int) ≤ _)) _ _); first | (refine br_t rfl ?_) | (refine br_f rfl ?_)) | ((with_reducible show Br (decide ((_ : Int) = _)) _ _); first | (refine br_t rfl ?_) | (refine br_f rfl ?_)) | ((with_reducible show Br (!decide ((_ : Int) = _)) _ _); first | (refine br_t rfl ?_) | (refine br_f rfl ?_))
  | ((with_reducible show Br (isNone _) _ _); first | (refine br_t rfl ?_) | (refine br_f rfl ?_)) | ((with_reducible show Br (!isNone _) _ _); first | (refine br_t rfl ?_) | (refine br_f rfl ?_))
  | ((with_reducible show Br true _ _); refine br_t rfl ?_) | ((with_reducible show Br false _ _); refine br_f rfl ?_) | (refine br_t (by decide +kernel) ?_) | (refine br_f (by decide +kernel) ?_)
  | (with_reducible refine cw_lenT ?_) | (with_reducible refine cw_listT ?_) | (with_reducible refine cw_tupL (.inr rfl) ?_) | (with_reducible refine cw_tupL (.inl rfl) ?_) | (with_reducible refine cw_lenL (.inr rfl) ?_) | (with_reducible refine cw_lenL (.inl rfl) ?_) | (with_reducible refine cw_lenW ?_)
  | (refine ⟨_, _, rfl, kit_ii, ?_⟩) | (refine ⟨_, _, rfl, kit_ib, ?_⟩) | (refine ⟨_, _, rfl, kit_tt, ?_⟩) | (refine ⟨_, _, rfl, kit_ss, ?_⟩)
  | (with_reducible refine ⟨_, rfl, ?_⟩) | (refine ⟨_, rfl, Nat.le_of_ble_eq_true rfl, ?_⟩) | (with_reducible refine ⟨_, _, rfl, ?_⟩) | (with_reducible refine ⟨_, _, _, rfl, ?_⟩) | ((with_reducible refine ⟨(fun _ z => nomatch z), ?_⟩); (try dsimp only [List.set])) | (refine ⟨_, _, rfl, by decide +kernel, ?_⟩) | (refine ⟨Nat.le_of_ble_eq_true rfl, ?_⟩) | (with_reducible refine ⟨rfl, ?_⟩) | dsimp only)
local macro_rules | `(tactic| walk_at "dx") => `(tactic| first
  | ((with_reducible refine ew_demoteL (xs := ?xs) ?hdm ?_); (case hdm => exact rfl); dsimp only [List.set]) | ((with_reducible refine sw_demoteF (xs := ?xs) ?hdm ?_); (case hdm => exact rfl); dsimp only [List.set]) | ((with_reducible refine sw_demoteE (xs := ?xs) ?hdm ?_); (case hdm => exact rfl); dsimp only [List.set])
  | ((with_reducible show EW _ _ _ _ _); walk_at "dx.ew") | ((with_reducible show SW _ _ _ _ _); walk_at "dx.sw") | ((with_reducible show OW _ _ _ _ _); walk_at "dx.ow") | (walk_at "dx.misc"))
local macro_rules | `(tactic| walk_at "go") => `(tactic| repeat walk_at "dx")
local macro_rules | `(tactic| walk_at "put1") => `(tactic| (refine ⟨Nat.le_of_ble_eq_true rfl, _, rfl, ?_⟩; dsimp only [wipeG, List.map, List.set]))
local macro_rules | `(tactic| walk_at "put2") => `(tactic| (refine ⟨⟨Nat.le_of_ble_eq_true rfl, Nat.le_of_ble_eq_true rfl⟩, _, rfl, ?_⟩; dsimp only [wipeG, List.map, List.set]))
local macro_rules | `(tactic| walk_at "gol") => `(tactic| repeat ((fail_if_success (with_reducible show LoopW _ _ _ _ _ _ _)); walk_at "dx"))
theorem cut_take (xs : List PyData) (k : Nat) : Dl.cutD xs none (some (k : Nat)) = xs.take k := by
  unfold Dl.cutD
  rw [HT.sIx_none, HT.sIx_nat, List.drop_zero, Nat.sub_zero]
  rcases Nat.le_total k xs.length with h | h
  · rw [Nat.min_eq_left h]
  · rw [Nat.min_eq_right h, List.take_of_length_le (Nat.le_refl _), List.take_of_length_le h]
theorem first_fails (W : Wd) (t : Tree) : ∀ ss : List Sta, (((ss.map (failing W t)).filter fun x => !isNone x).take 1 ++ [PyData.none])[0]? = some (fails W t ss)
  | [] => rfl
  | s :: ss => by
    rw [fails, List.map_cons, List.filter_cons]
    cases e : isNone (failing W t s) with
    | true =>
      rw [if_pos rfl]
      exact first_fails W t ss
    | false => rfl
def sp_w_long : DSpec := fun rs n Q => ∃ a : Int, rs = [.d (.int a)] ∧ Q (.d (.bool true)) n
section
variable {P : Program} {w : World} {K : PySem.W.Frag} {mg : Str → Option Value} {base : Heap} {ns : List Int} {k m : Nat}
def nm_w_is_long_right : List Str := ["_law_number", "_law_high", "_law_deed_here", "_law_plain", "_law_tree_here", "_law_turn", "_law_some", "_law_states", "_law_due", "_law_state", "_law_one"]
theorem sc_w_is_long_right : FnScope nm_w_is_long_right ["_law_number"] (defScope s_w_is_long_right) := ⟨rfl, rfl, rfl, by decide +kernel, rfl, by decide +kernel, by decide +kernel⟩
/- slots of w_is_long_right: 0 _law_number, 1 _law_high, 2 _law_deed_here, 3 _law_plain, 4 _law_tree_here, 5 _law_turn, 6 _law_some, 7 _law_states, 8 _law_due, 9 _law_state, 10 _law_one -/
theorem ok_w_is_long_right (B : Bs K mg) (H_tree_fails : Fn P w K mg base ns "tree_fails" 12 ["plain", "some", "tree"] [] sp_tree_fails) (H_w_gone : Fn P w K mg base ns "_law_gone" 21 ["_law_plain", "_law_first", "_law_tree_here"] [] sp_w_gone) (H_tree_of : Fn P w K mg base ns "tree_of" 3 ["plain", "plan"] [] sp_tree_of) : FnG P w K mg base ns "_law_is_long_right" (30 + 1) ["_law_number"] sp_w_long := by
  obtain ⟨fd, F⟩ := B.says.def_ 35 (d := d_w_is_long_right) rfl
  refine ⟨_, fd, okDG (ns := ns) F sc_w_is_long_right (fun rs n Q h => ?len) (fun cdv A outer s H E hr hG => ⟨_, PSs.nox (pss_cons (ps_set (i := 1) sc_w_is_long_right.nd rfl (.inl rfl) (pe_op op_plus pe_int (pe_op op_mod (pe_op op_fdiv (pv 0) pe_int) pe_int)))
      (pss_cons (ps_set (i := 2) sc_w_is_long_right.nd rfl (.inl rfl) (pe_tup (pa_cons (pe_tup (pa_cons pe_str (pa_cons (pe_tup pa_nil) pa_nil))) (pa_cons (pe_tup (pa_cons pe_str pa_nil)) (pa_cons pe_int (pa_cons pe_int (pa_cons (pe_tup (pa_cons (pe_tup (pa_cons pe_int (pa_cons pe_int pa_nil))) pa_nil)) (pa_cons pe_int (pa_cons pe_int pa_nil)))))))))
      (pss_cons (ps_set (i := 3) sc_w_is_long_right.nd rfl (.inr rfl) (pe_tup (pa_cons (pe_tup (pa_cons (pe_tup (pa_cons pe_str (pa_cons (pe_tup pa_nil) pa_nil))) pa_nil)) (pa_cons (pe_tup (pa_cons (pe_tup (pa_cons (pe_tup (pa_cons pe_str (pa_cons (pe_tup pa_nil) pa_nil))) (pa_cons pe_int (pa_cons (pv 1) pa_nil)))) pa_nil)) (pa_cons (pe_tup (pa_cons (pv 2) pa_nil)) (pa_cons (pe_tup (pa_cons pe_int (pa_cons (pe_tup (pa_cons pe_int pa_nil)) pa_nil))) (pa_cons (pe_tup (pa_cons pe_str (pa_cons pe_int (pa_cons (pe_op op_mod (pe_op op_fdiv (pv 0) pe_int) (pe_op op_plus (pv 1) pe_int)) pa_nil)))) pa_nil)))))))
      (pss_cons (ps_set (i := 4) sc_w_is_long_right.nd rfl (.inr rfl) (pe_fn H_tree_of (hr.mono (by omega)) (by rfl) (pa_cons (pv 3) (pa_cons (pe_tup pa_nil) pa_nil))))
      (pss_cons (ps_for PassesOwn.never rfl (pi_range1 (by rfl) (B.free 46 _ rfl) (pa_cons pe_int pa_nil)) (pg_name (i := 5) sc_w_is_long_right.nd rfl (.inl rfl)) (pss_one (ps_set (i := 4) sc_w_is_long_right.nd rfl (.inr rfl) (pe_tup (pa_cons pe_str (pa_cons (pe_tup (pa_cons pe_str (pa_cons (pe_tup pa_nil) pa_nil))) (pa_cons (pv 4) pa_nil)))))))
      (pss_cons (ps_set (i := 6) sc_w_is_long_right.nd rfl (.inl rfl) (pe_op op_plus (pe_op op_times (pe_tup (pa_cons (pe_tup (pa_cons pe_int (pa_cons (pe_tup (pa_cons pe_int pa_nil)) pa_nil))) pa_nil)) pe_int) (pe_op op_times (pe_tup (pa_cons (pe_tup (pa_cons pe_int (pa_cons (pe_tup (pa_cons (pv 1) pa_nil)) pa_nil))) pa_nil)) pe_int)))
      (pss_cons (ps_for PassesOwn.never rfl (pi_tup (pe_tup (pa_cons (pe_slice slD (pv 6) po_none (po_some pe_int)) (pa_cons (pv 6) (pa_cons (pe_revT (pv 6)) pa_nil))))) (pg_name (i := 7) sc_w_is_long_right.nd rfl (.inl rfl)) (pss_cons (ps_setLc (i := 8) (own := [("_law_state", 9)]) (g := gName 9) (tt := tYes) (te := (tCall (spOf ⟨K, ns, w⟩ sp_w_gone) [] E0 (tCons (tVar 3) (tCons (tVar 9) (tCons (tVar 4) tNil))))) rfl sc_w_is_long_right.nd rfl rfl (sw_true rfl rfl rfl (by decide +kernel)) (pi_tup (pv 7)) (blkOk_by (own := [("_law_state", 9)]) (N := nm_w_is_long_right) (sc := defScope s_w_is_long_right) (by decide +kernel)) (fun _ _ _ _ _ => (pg_name (i := 9) sc_w_is_long_right.nd rfl (.inl rfl))) (fun _ _ _ _ _ => pts_nil) (fun _ _ _ _ _ => (pe_fn H_w_gone (hr.mono (by omega)) (by rfl) (pa_cons (pv 3) (pa_cons (pv 9) (pa_cons (pv 4) pa_nil))))))
      (pss_cons (ps_set (i := 8) sc_w_is_long_right.nd rfl (.inl rfl) (pe_op op_plus (pe_slice slD (pe_lc (own := [("_law_one", 10)]) (g := gName 10) (tt := (tTest (tOp (rNotN) (tVar 10) (tC V.non)))) (te := (tVar 10)) rfl sc_w_is_long_right.nd (pi_list (pv 8)) (blkOk_by (own := [("_law_one", 10)]) (N := nm_w_is_long_right) (sc := defScope s_w_is_long_right) (by decide +kernel)) (fun _ _ _ _ _ => (pg_name (i := 10) sc_w_is_long_right.nd rfl (.inl rfl))) (fun _ _ _ _ _ => pts_one (pt_cmpR op_some (pv 10) pe_non (nomark _))) (fun _ _ _ _ _ => (pv 10))) po_none (po_some pe_int)) (pe_lst (pa_cons pe_non pa_nil))))
      (pss_one (ps_if (pt_cmpR op_ne (pe_callB (call_reprD hr.units hG) (by rfl) (B.free 47 _ rfl) (by decide +kernel) (pa_cons (pe_fn H_tree_fails (hr.mono (by omega)) (by rfl) (pa_cons (pv 3) (pa_cons (pv 7) (pa_cons (pv 4) pa_nil)))) pa_nil)) (pe_callB (call_reprD hr.units hG) (by rfl) (B.free 47 _ rfl) (by decide +kernel) (pa_cons (pe_ix (ixA hr.units) (pv 8) pe_int (fun _ _ => rfl)) pa_nil)) (nomark _)) (pss_one (ps_ret pe_bl)) pss_nil)))))
      (pss_one (ps_ret pe_bl))))))))), fun rs n Q h => ?walk⟩), B.glo 35 _ rfl, F.kp, F.bindsN fun _ _ _ _ _ _ us hl => match us, hl with | [_], _ => rfl⟩
  case len =>
    obtain ⟨_, rfl, _⟩ := h
    rfl
  case walk =>
    obtain ⟨a, rfl, hQ⟩ := h
    show SW _ _ [.d (.int a), .u, .u, .u, .u, .u, .u, .u, .u, .u, .u] n _
    dsimp only [cxOf]
    walk_at "go"
    have hh : 10 ≤ 10 + a / 8 % 20 ∧ 10 + a / 8 % 20 ≤ 29 := by omega
    obtain ⟨hh1, hh2⟩ := hh
    have hz0 := Int.emod_nonneg (a / 256) (show 10 + a / 8 % 20 + 2 ≠ 0 by omega)
    have hz1 := Int.emod_lt_of_pos (a / 256) (show 0 < 10 + a / 8 % 20 + 2 by omega)
    generalize a / 256 % (10 + a / 8 % 20 + 2) = z at hz0 hz1
    generalize 10 + a / 8 % 20 = hi at hh1 hh2 hz1
    let W : Wd := ⟨[labOf "f" 0], [⟨labOf "c" 0, 0, hi⟩], [⟨labOf "d" 0, .tru, 0, 0, [(0, 1)], 1, 1⟩], ⟨1, [0]⟩, .least 0 z⟩
    have hW : WdOk W := ⟨fun d hd => by
      rw [List.mem_singleton.1 hd]
      exact ⟨lab_ok "d" (by decide), trivial, by show 1 ≤ 8; decide, fun x hx => by rw [List.mem_singleton.1 hx]; show 0 < 1; decide, by show 1 ≤ 1000; decide, List.pairwise_singleton _ _⟩, rfl, by show 0 < 1; decide, by show 1 ≤ 8; decide, by show 1 ≤ 12; decide, by show 1 ≤ 3; decide, by show 1 ≤ 10; decide, by show 1 < 2 ^ 1; decide, fun i hi2 => by
        have hi2 : i < 1 := hi2
        obtain rfl : i = 0 := by omega
        show (0 : Int) ≤ 0 ∧ (0 : Int) ≤ hi
        omega⟩
    have hM : WdSm W := ⟨fun d hd => by
      rw [List.mem_singleton.1 hd]
      exact ⟨"d", 0, rfl, by decide, by decide⟩, fun d hd => by
      rw [List.mem_singleton.1 hd]
      exact trivial, ⟨by decide, by omega, by omega⟩, fun c hc => by
      rw [List.mem_singleton.1 hc]
      exact ⟨by show (-10000000 : Int) ≤ 0; decide, by show 0 ≤ hi; omega, by show hi ≤ 1000000000; omega⟩⟩
    refine ⟨W, [], rfl, hW, by decide, (fun l hl => by cases hl), rfl, ?_⟩
    walk_at "go"
    refine ⟨by decide, by decide, loop_inv (fun ds G n' => ∃ (t : Tree) (a5 : Rs), G = [.d (.int a), .d (.int hi), .d (Deed.enc ⟨labOf "d" 0, .tru, 0, 0, [(0, 1)], 1, 1⟩), .d W.enc, .d t.enc, a5, .u, .u, .u, .u, .u] ∧ n' = n ∧ t.ok W ∧ t.deep + ds.length ≤ 20 ∧ t.size + ds.length ≤ 20) ?_ ?_ _ _ _ ⟨.done, _, rfl, rfl, trivial, by rw [rangeD_len]; decide, by rw [rangeD_len]; decide⟩⟩
    · rintro G n' ⟨t, a5, rfl, rfl, ho, htd, hts⟩
      rw [List.length_nil, Nat.add_zero] at htd hts
      walk_at "go"
      refine ow_mulT (List.cons_ne_nil _ _) (by decide) (by decide) (Nat.le_of_ble_eq_true rfl) ?_
      walk_at "go"
      refine ow_mulT (List.cons_ne_nil _ _) (by decide) (by decide) (Nat.le_of_ble_eq_true rfl) ?_
      rw [List.flatten_replicate_singleton, List.flatten_replicate_singleton]
      refine ow_addT (by rw [List.length_replicate, List.length_replicate]; decide) ?_
      have es : List.replicate (Int.toNat 31) (PyData.tuple [.int 1, .tuple [.int 0]]) ++ List.replicate (Int.toNat 33) (PyData.tuple [.int 0, .tuple [.int hi]]) = (List.replicate 31 (⟨1, [0]⟩ : Sta) ++ List.replicate 33 (⟨0, [hi]⟩ : Sta)).map Sta.enc := by
        rw [List.map_append, List.map_replicate, List.map_replicate]
        rfl
      rw [es]
      have hin : ∀ s ∈ (List.replicate 31 (⟨1, [0]⟩ : Sta) ++ List.replicate 33 (⟨0, [hi]⟩ : Sta)), StaIn W s := fun s hs => by
        rcases List.mem_append.1 hs with hs | hs
        · rw [List.eq_of_mem_replicate hs]
          exact ⟨rfl, hW.st0, hW.st1⟩
        · rw [List.eq_of_mem_replicate hs]
          refine ⟨rfl, by show 0 < 2 ^ 1; decide, fun i hi2 => ?_⟩
          have hi2 : i < 1 := hi2
          obtain rfl : i = 0 := by omega
          show (0 : Int) ≤ hi ∧ hi ≤ hi
          omega
      have hlen : (List.replicate 31 (⟨1, [0]⟩ : Sta) ++ List.replicate 33 (⟨0, [hi]⟩ : Sta)).length = 64 := by
        rw [List.length_append, List.length_replicate, List.length_replicate]
      generalize List.replicate 31 (⟨1, [0]⟩ : Sta) ++ List.replicate 33 (⟨0, [hi]⟩ : Sta) = S at hin hlen
      walk_at "go"
      refine lw_T ?_
      rw [show Dl.cutD (S.map Sta.enc) none (some 1) = (S.take 1).map Sta.enc from by rw [List.map_take]; exact cut_take _ 1]
      walk_at "gol"
      refine loop_inv (fun ds G n1 => ∃ a7 a8 : Rs, G = [.d (.int a), .d (.int hi), .d (Deed.enc ⟨labOf "d" 0, .tru, 0, 0, [(0, 1)], 1, 1⟩), .d W.enc, .d t.enc, a5, .d (.tuple (S.map Sta.enc)), a7, a8, .u, .u] ∧ n1 = n' ∧ ∀ x ∈ ds, ∃ ss : List Sta, x = .tuple (ss.map Sta.enc) ∧ 1 ≤ ss.length ∧ ss.length ≤ 64 ∧ ∀ s ∈ ss, StaIn W s) ?_ ?_ _ _ _ ⟨_, _, rfl, rfl, fun x hx => ?_⟩
      · rintro G n1 ⟨a7, a8, rfl, rfl, _⟩
        walk_at "go"
        exact hQ
      · rintro x ds G n1 ⟨a7, a8, rfl, rfl, hx⟩
        obtain ⟨ss, rfl, h1, h2, h3⟩ := hx x (List.mem_cons_self ..)
        walk_at "put1"
        walk_at "go"
        refine ⟨by rw [List.length_map]; omega, comp_mapE Sta.enc (failing W t) _ _ (fun s hs => ?_) ?_⟩
        · walk_at "put1"
          walk_at "go"
          exact ⟨W, s, t, rfl, hW, (h3 s hs).len, ho, htd, rfl, rfl, rfl⟩
        · rw [List.nil_append]
          walk_at "go"
          refine ⟨by rw [List.length_map]; omega, comp_fm (fun x => !isNone x) (fun x => x) _ _ (fun x hx2 => ?_) ?_⟩
          · walk_at "put1"
            walk_at "go"
            exact fun _ => by walk_at "go"
          · rw [List.nil_append, List.map_id']
            walk_at "go"
            refine lw_L (.inl rfl) ?_
            rw [show Dl.cutD ((ss.map (failing W t)).filter fun x => !isNone x) none (some 1) = ((ss.map (failing W t)).filter fun x => !isNone x).take 1 from cut_take _ 1]
            walk_at "go"
            refine ow_addL (.inl rfl) (.inl rfl) (by have := List.length_take_le 1 ((ss.map (failing W t)).filter fun x => !isNone x); show _ + 1 ≤ 1000; omega) ?_
            walk_at "go"
            refine ⟨W, ss, t, rfl, hW, h1, h2, h3, ho, htd, by omega, rfl, ?_⟩
            walk_at "go"
            have hsh := sh_fails hW hM ho htd h3
            refine cw_reprT hsh.show_ hsh.ints_ (Nat.le_trans hsh.dep (by decide)) (Nat.le_trans hsh.wt (by decide)) ?_
            walk_at "go"
            refine ow_ixL (.inr rfl) (atI_nat (i := 0) (first_fails W t ss)) ?_
            walk_at "go"
            refine cw_reprT hsh.show_ hsh.ints_ (Nat.le_trans hsh.dep (by decide)) (Nat.le_trans hsh.wt (by decide)) ?_
            refine ow_neX ?_
            walk_at "go"
            refine br_f (by rw [decide_eq_true rfl]; rfl) ?_
            walk_at "go"
            exact fun x hx2 => hx x (List.mem_cons_of_mem _ hx2)
      · rcases List.mem_cons.1 hx with rfl | hx
        · exact ⟨S.take 1, rfl, by rw [List.length_take, hlen]; decide, by rw [List.length_take, hlen]; decide, fun s hs => hin s (List.mem_of_mem_take hs)⟩
        rcases List.mem_cons.1 hx with rfl | hx
        · exact ⟨S, rfl, by omega, by omega, hin⟩
        rw [List.mem_singleton.1 hx]
        exact ⟨S.reverse, by rw [List.map_reverse], by rw [List.length_reverse]; omega, by rw [List.length_reverse]; omega, fun s hs => hin s (List.mem_reverse.1 hs)⟩
    · rintro x ds G n' ⟨t, a5, rfl, rfl, ho, htd, hts⟩
      rw [List.length_cons] at htd hts
      walk_at "put1"
      walk_at "go"
      exact ⟨.doo (labOf "d" 0) t, _, rfl, rfl, ⟨⟨_, List.mem_singleton.2 rfl, rfl⟩, ho⟩, by show t.deep + 1 + _ ≤ 20; omega, by show t.size + 1 + _ ≤ 20; omega⟩
end
end Dd
set_option Elab.async false
set_option linter.all false
set_option maxRecDepth 100000
set_option autoImplicit false
set_option maxHeartbeats 1000000
/-! Pr: the law. -/
namespace Dd
open PySem PySem.Spec PyProof.Rows L2 Dl
theorem ew_demoteM {P : Pm} {G : List Rs} {n : Int} {Q : Rs → Int → Prop} {te : TE} {j : Nat} {xs : List PyData} {K : PySem.W.Frag} {g : TG} {tt : TT} {e : TE} {vs : List Nat} (h : G[j]? = some (.l xs)) (q : EW P (tLc (iMix K (tCons te (tCons (tVar j) tNil))) g tt e vs) (G.set j (.r xs)) n Q) : EW P (tLc (iMix K (tCons te (tCons (tVar j) tNil))) g tt e vs) G n Q := ew_demote h q
theorem ew_nonE {P : Pm} {G : List Rs} {n : Int} {Q : Rs → Int → Prop} {x : PyData} (e : x = PyData.none) (q : Q (.d x) n) : EW P (tC .non) G n Q := by
  subst e
  exact ew_non q
theorem ew_due {P : Pm} {G : List Rs} {n : Int} {Q : Rs → Int → Prop} {k : Nat} {L : List PyData} {x : PyData} (h : G[k]? = some (.l L)) (h1 : L.isEmpty = false → L[0]? = some x) (h2 : L.isEmpty = true → x = .none) (q : Q (.d x) n) :
    Br (!L.isEmpty) (EW P (tOp (rIxA P.K P.w) (tVar k) (tC (.int 0))) G n Q) (EW P (tC .non) G n Q) := by
  cases e : L.isEmpty with
  | true => exact br_f rfl (ew_nonE (h2 e) q)
  | false => exact br_t rfl (ew_op (ew_varL h (ew_int (ow_ixL (.inr rfl) (atI_nat (i := 0) (h1 e)) q))))
theorem isNone_eq {x : PyData} (h : isNone x = true) : x = .none := by
  cases x <;> first | rfl | cases h
theorem due_head (W : Wd) (t : Tree) (sts : List Sta) : (((sts.map (failing W t)).filter fun x => !isNone x).isEmpty = false → ((sts.map (failing W t)).filter fun x => !isNone x)[0]? = some (fails W t sts)) ∧ (((sts.map (failing W t)).filter fun x => !isNone x).isEmpty = true → fails W t sts = .none) := by
  have h := first_fails W t sts
  generalize ((sts.map (failing W t)).filter fun x => !isNone x) = L at h
  cases L with
  | nil => exact ⟨fun z => (by cases z), fun _ => (Option.some.inj h).symm⟩
  | cons x r => exact ⟨fun _ => h, fun z => (by cases z)⟩
theorem fails_some {W : Wd} {t : Tree} : ∀ {ss : List Sta}, isNone (fails W t ss) = false → ∃ s ∈ ss, ∃ p x, fails W t ss = .tuple [s.enc, .tuple p, x] ∧ failing W t s = .tuple [s.enc, .tuple p, x]
  | [], h => by
    rw [fails] at h
    cases h
  | s :: ss, h => by
    rw [fails] at h ⊢
    cases e : isNone (failing W t s) with
    | true =>
      rw [if_pos e] at h
      rw [if_pos rfl]
      obtain ⟨a, b, c⟩ := fails_some h
      exact ⟨a, List.mem_cons_of_mem _ b, c⟩
    | false =>
      rw [if_neg Bool.false_ne_true]
      refine ⟨s, List.mem_cons_self .., ?_⟩
      unfold failing at e ⊢
      cases er : run W t s [] with
      | none => rw [er] at e; cases e
      | some px => exact ⟨px.1, px.2, rfl, rfl⟩
theorem fails_one (W : Wd) (t : Tree) (s : Sta) : fails W t [s] = failing W t s := by
  rw [fails]
  cases e : isNone (failing W t s) with
  | true => rw [if_pos rfl, isNone_eq e, fails]
  | false => rw [if_neg Bool.false_ne_true]
theorem fails_skip {W : Wd} {t : Tree} {b : List Sta} : ∀ {a : List Sta}, (∀ s ∈ a, isNone (failing W t s) = true) → fails W t (a ++ b) = fails W t b
  | [], _ => rfl
  | s :: a, h => by
    rw [List.cons_append, fails, if_pos (h s (List.mem_cons_self ..)), fails_skip fun x hx => h x (List.mem_cons_of_mem _ hx)]
theorem zipD_map {α : Type} (f g : α → PyData) : ∀ l : List α, zipD (l.map f) (l.map g) = l.map fun x => .tuple [f x, g x]
  | [] => rfl
  | x :: l => by
    simp only [List.map_cons, zipD, zipD_map f g l]
local macro_rules | `(tactic| walk_at "dx.var") => `(tactic| ((with_reducible show EW _ (tVar _) _ _ _); first
  | (refine ew_varD rfl ?_) | (refine ew_varR rfl ?_) | (refine ew_varL rfl ?_) | (refine ew_varW rfl ?_) | (refine ew_varS rfl ?_) | (refine ew_varT rfl ?_)))
local macro_rules | `(tactic| walk_at "dx.ew") => `(tactic| first
  | (walk_at "dx.var")
  | (with_reducible refine ew_int ?_) | ((with_reducible refine ew_str ?hh ?_); (case hh => decide +kernel)) | (with_reducible refine ew_bl ?_) | (with_reducible refine ew_non ?_)
  | ((with_reducible show EW _ (tOp (rIxA _ _) (tVar _) (tC (.int 0))) _ _ _); refine ew_w0 rfl ?_) | ((with_reducible show EW _ (tOp (rIxA _ _) (tVar _) (tC (.int 1))) _ _ _); refine ew_w1 rfl ?_)
  | (with_reducible refine ew_op ?_) | (with_reducible refine ew_un ?_) | (with_reducible refine ew_tupE ?_) | (with_reducible refine ew_lstE ?_) | (with_reducible refine ew_isi ?_) | (with_reducible refine ew_cb ?_)
  | (with_reducible refine ew_andV ?_) | (with_reducible refine ew_orV ?_) | (with_reducible refine ew_notV ?_) | ((with_reducible refine ew_callWv ?hw ?_); (case hw => exact rfl)) | (with_reducible refine ew_call ?_) | (with_reducible refine ew_callD ?_) | ((with_reducible refine ew_lc1 ?hq ?_); (case hq => exact rfl)) | ((with_reducible refine ew_lc2 ?hq ?hq2 ?_); (case hq => exact rfl); (case hq2 => exact rfl)) | (with_reducible refine ew_if ?_) | (with_reducible refine ew_chain ?_) | (with_reducible refine ew_sl ?_) | (with_reducible refine ew_bmS ?_) | (with_reducible refine ew_back ?_))
local macro_rules | `(tactic| walk_at "dx.ow") => `(tactic| first
  | (with_reducible refine ow_addI ?_) | (with_reducible refine ow_eqI ?_) | (with_reducible refine ow_eqS ?_) | (with_reducible refine ow_neI ?_) | (with_reducible refine ow_neS ?_) | (with_reducible refine ow_neN (.inr rfl) (.inl rfl) ?_) | (with_reducible refine ow_eqN (.inr rfl) (.inl rfl) ?_) | ((with_reducible refine ow_inT ?hmm ?_); (case hmm => exact Nat.le_of_ble_eq_true rfl)) | (with_reducible refine ow_isN ?_) | (with_reducible refine ow_noN ?_)
  | (with_reducible refine ow_intB ?_) | (with_reducible refine ow_int ?_) | ((with_reducible refine ow_intC ?hc ?_); (case hc => first | decide | omega | exact ⟨by decide, by decide⟩ | exact ⟨by omega, by omega⟩ | exact ⟨by decide, by decide, by decide⟩ | exact ⟨by omega, by omega, by decide⟩))
  | ((with_reducible refine ow_mulI ?hcm ?_); (case hcm => first | exact Or.inl ⟨by decide, by decide⟩ | exact Or.inr ⟨by decide, by decide⟩ | exact Or.inl ⟨by omega, by omega⟩ | exact Or.inr ⟨by omega, by omega⟩))
  | ((with_reducible show OW _ (rIxA _ _) (Rs.d _) (Rs.d _) _); refine ow_ixT rfl ?_))
local macro_rules | `(tactic| walk_at "dx.sw") => `(tactic| first
  | (walk_at "dx.for") | (with_reducible refine sw_seq ?_) | (with_reducible refine sw_next ?_) | ((with_reducible show SW _ (tDrop (tCall _ _ _ _)) _ _ _); refine sw_expr ?_) | (with_reducible refine sw_cont ?_) | (with_reducible refine sw_ret ?_) | (with_reducible refine sw_retN ?_) | (with_reducible refine sw_if ?_)
  | ((with_reducible show SW _ (tAsg (tBM0 _ _ rPop (tVar _)) _) _ _ _); refine sw_pop2 (Nat.le_of_ble_eq_true rfl) (Nat.le_of_ble_eq_true rfl) rfl ?_; dsimp only [List.set])
  | ((with_reducible show SW _ (tDrop (tBM _ _ rExtend _ _)) _ _ _); refine sw_extend rfl ?_) | ((with_reducible show SW _ (tDrop (tBM0 _ _ rReverse _)) _ _ _); refine sw_reverse rfl ?_)
  | ((with_reducible show SW _ (tAsg _ (gSub (tVar _) _ _)) _ _ _); first | (refine sw_draw rfl ?_) | (refine sw_store rfl ?_))
  | ((with_reducible refine sw_aliasL (xs := ?xs) ?hi ?hal ?_); (case hal => exact rfl); (case hi => exact Nat.le_of_ble_eq_true rfl); dsimp only [List.set])
  | ((with_reducible refine sw_set ?hi ?_); (case hi => exact Nat.le_of_ble_eq_true rfl))
  | ((with_reducible refine sw_par ?hi ?hj ?_); (case hi => exact Nat.le_of_ble_eq_true rfl); (case hj => exact Nat.le_of_ble_eq_true rfl); dsimp only [List.set])
  | ((with_reducible refine sw_asg2 ?hi ?hj ?_); (case hi => exact Nat.le_of_ble_eq_true rfl); (case hj => exact Nat.le_of_ble_eq_true rfl); dsimp only [List.set])
  | ((with_reducible refine sw_asg3 ?hi ?hj ?hk ?_); (case hi => exact Nat.le_of_ble_eq_true rfl); (case hj => exact Nat.le_of_ble_eq_true rfl); (case hk => exact Nat.le_of_ble_eq_true rfl); dsimp only [List.set])
  | ((with_reducible refine sw_aug (a := ?aa) ?hi ?_); (case hi => exact rfl); dsimp only [List.set]))
local macro_rules | `(tactic| walk_at "dx.for") => `(tactic| first
  | (with_reducible refine sw_for1 ?_) | (with_reducible refine sw_for2 ?_))
local macro_rules | `(tactic| walk_at "dx.misc") => `(tactic| first
  | (with_reducible refine ea_cons ?_) | (with_reducible refine ea_nil ?_)
  | (with_reducible refine tw_test ?_) | (with_reducible refine tw_B ?_) | (with_reducible refine tw_and ?_) | (with_reducible refine tw_or ?_) | (with_reducible refine tw_not ?_) | (with_reducible refine tw_yes ?_)
  | (with_reducible refine wi_tup ?_) | (with_reducible refine wi_enumT ?_) | (with_reducible refine wi_zipT ?_) | (with_reducible refine wi_rev ?_) | (with_reducible refine wi_range ?_) | (refine wi_enum rfl ?_) | (refine wi_var rfl ?_) | ((with_reducible show WI _ (iList _ (tCall _ _ _ _)) _ _ _); refine wi_new ?_) | (with_reducible refine uw_int ?_) | (with_reducible refine op_no ?_) | (with_reducible refine op_int ?_)
  | ((with_reducible show Br (decide ((_ : Int) < _)) _ _); first | (refine br_t rfl ?_) | (refine br_f rfl ?_)) | ((with_reducible show Br (decide ((_ : Int) ≤ _)) _ _); first | (refine br_t rfl ?_) | (refine br_f rfl ?_)) | ((with_reducible show Br (decide ((_ : Int) = _)) _ _); first | (refine br_t rfl ?_) | (refine br_f rfl ?_)) | ((with_reducible show Br (!decide ((_ : Int) = _)) _ _); first | (refine br_t rfl ?_) | (refine br_f rfl ?_))
  | ((with_reducible show Br (isNone _) _ _); first | (refine br_t rfl ?_) | (refine br_f rfl ?_)) | ((with_reducible show Br (!isNone _) _ _); first | (refine br_t rfl ?_) | (refine br_f rfl ?_))
  | ((with_reducible show Br true _ _); refine br_t rfl ?_) | ((with_reducible show Br false _ _); refine br_f rfl ?_) | (refine br_t (by decide +kernel) ?_) | (refine br_f (by decide +kernel) ?_)
  | (with_reducible refine cw_lenT ?_) | (with_reducible refine cw_listT ?_) | (with_reducible refine cw_tupL (.inr rfl) ?_) | (with_reducible refine cw_tupL (.inl rfl) ?_) | (with_reducible refine cw_lenL (.inr rfl) ?_) | (with_reducible refine cw_lenL (.inl rfl) ?_) | (with_reducible refine cw_lenW ?_)
  | (refine ⟨_, _, rfl, kit_ii, ?_⟩) | (refine ⟨_, _, rfl, kit_ib, ?_⟩) | (refine ⟨_, _, rfl, kit_tt, ?_⟩) | (refine ⟨_, _, rfl, kit_ss, ?_⟩)
  | (with_reducible refine ⟨_, rfl, ?_⟩) | (refine ⟨_, rfl, Nat.le_of_ble_eq_true rfl, ?_⟩) | (with_reducible refine ⟨_, _, rfl, ?_⟩) | (with_reducible refine ⟨_, _, _, rfl, ?_⟩) | ((with_reducible refine ⟨(fun _ z => nomatch z), ?_⟩); (try dsimp only [List.set])) | (refine ⟨_, _, rfl, by decide +kernel, ?_⟩) | (refine ⟨Nat.le_of_ble_eq_true rfl, ?_⟩) | (with_reducible refine ⟨rfl, ?_⟩) | dsimp only)
local macro_rules | `(tactic| walk_at "dx") => `(tactic| first
  | ((with_reducible refine ew_demoteL (xs := ?xs) ?hdm ?_); (case hdm => exact rfl); dsimp only [List.set]) | ((with_reducible refine sw_demoteF (xs := ?xs) ?hdm ?_); (case hdm => exact rfl); dsimp only [List.set]) | ((with_reducible refine sw_demoteE (xs := ?xs) ?hdm ?_); (case hdm => exact rfl); dsimp only [List.set])
  | ((with_reducible show EW _ _ _ _ _); walk_at "dx.ew") | ((with_reducible show SW _ _ _ _ _); walk_at "dx.sw") | ((with_reducible show OW _ _ _ _ _); walk_at "dx.ow") | (walk_at "dx.misc"))
local macro_rules | `(tactic| walk_at "go") => `(tactic| repeat walk_at "dx")
local macro_rules | `(tactic| walk_at "put1") => `(tactic| (refine ⟨Nat.le_of_ble_eq_true rfl, _, rfl, ?_⟩; dsimp only [wipeG, List.map, List.set]))
local macro_rules | `(tactic| walk_at "put2") => `(tactic| (refine ⟨⟨Nat.le_of_ble_eq_true rfl, Nat.le_of_ble_eq_true rfl⟩, _, rfl, ?_⟩; dsimp only [wipeG, List.map, List.set]))
local macro_rules | `(tactic| walk_at "gol") => `(tactic| repeat ((fail_if_success (with_reducible show LoopW _ _ _ _ _ _ _)); walk_at "dx"))
local macro_rules | `(tactic| walk_at "dx") => `(tactic| ((with_reducible refine ew_demoteM (xs := ?xs) ?hdm ?_); (case hdm => exact rfl); dsimp only [List.set]))
theorem comp_inv {P : Pm} {p : Pat} {G : List Rs} {n : Int} {tt : TT} {te : TE} {vs : List Nat} {Q : List PyData → Int → Prop} (I : List PyData → List PyData → Prop) (h0 : ∀ acc, I [] acc → Q acc n)
    (h1 : ∀ d ds acc, I (d :: ds) acc → p.lt (wipeG G vs).length ∧ ∃ G1, p.put d (wipeG G vs) = some G1 ∧ TW P tt G1 n fun b n1 => Br b (EW P te G1 n1 fun r n2 => ∃ x, r = .d x ∧ n2 = n ∧ I ds (acc ++ [x])) (n1 = n ∧ I ds acc)) :
    ∀ ds acc, I ds acc → CompW P p tt te G vs Q ds acc n := by
  intro ds
  induction ds with
  | nil => exact fun acc h => h0 acc h
  | cons d ds ih =>
    intro acc h
    obtain ⟨a, G1, b, c⟩ := h1 d ds acc h
    refine ⟨a, G1, b, tw_mono (fun b n1 z => ?_) c⟩
    cases b with
    | true =>
      refine ew_mono (fun r n2 y => ?_) z
      obtain ⟨x, e, rfl, y⟩ := y
      exact ⟨x, e, ih _ y⟩
    | false =>
      obtain ⟨rfl, y⟩ := z
      exact ih _ y
theorem rises_of {hi : Nat} : ∀ {fs : List Nat} {lo : Nat}, fs.Pairwise (· < ·) → (∀ f ∈ fs, lo ≤ f ∧ f < hi) → rises hi lo fs
  | [], _, _, _ => trivial
  | f :: r, lo, h, b => by
    obtain ⟨h1, h2⟩ := List.pairwise_cons.1 h
    obtain ⟨b1, b2⟩ := b f (List.mem_cons_self ..)
    exact ⟨b1, b2, rises_of h2 fun g hg => ⟨h1 g hg, (b g (List.mem_cons_of_mem _ hg)).2⟩⟩
theorem tree_of_ok {W : Wd} : ∀ {ls : List PyData}, (∀ l ∈ ls, ∃ d ∈ W.deeds, d.lab = l) → (treeOf ls).ok W ∧ (treeOf ls).deep = ls.length + 1 ∧ (treeOf ls).size = ls.length + 1
  | [], _ => ⟨trivial, rfl, rfl⟩
  | l :: ls, h => by
    obtain ⟨a, b, c⟩ := tree_of_ok fun l hl => h l (List.mem_cons_of_mem _ hl)
    exact ⟨⟨h l (List.mem_cons_self ..), a⟩, by rw [treeOf, Tree.deep, b, List.length_cons], by rw [treeOf, Tree.size, c, List.length_cons]⟩
theorem rg5 {a b : Int} (h0 : 0 ≤ a) (h1 : a ≤ 1) (h2 : 0 ≤ b) (h3 : b ≤ 1000) : ∃ m : Nat, RgC a b 5 m ∧ ∀ j : Nat, j < m → a + (j : Nat) * 5 < b := by
  have hs : Builtin.Range.rangeSize a b 5 = if a < b then (b - a - 1) / 5 + 1 else 0 := by
    unfold Builtin.Range.rangeSize
    rw [if_pos (by decide)]
  refine ⟨(if a < b then (b - a - 1) / 5 + 1 else 0).toNat, ⟨by decide, by decide, ?_, ?_⟩, fun j hj => ?_⟩
  · unfold Builtin.Range.small
    rw [hs]
    simp only [Builtin.Range.rangeFitsLong, Bool.and_eq_true, Bool.or_eq_true, decide_eq_true_eq, beq_iff_eq, show ((5 : Int) > 0) by decide, if_true]
    split <;> omega
  · rw [hs]
    split <;> omega
  · split at hj <;> omega
def sp_law : DSpec := fun rs n Q => rs = [.s] ∧ Q (.d (.bool true)) n
section
variable {P : Program} {w : World} {K : PySem.W.Frag} {mg : Str → Option Value} {base : Heap} {ns : List Int} {k m : Nat}
def nm_law : List Str := ["_law_script", "_law_plain", "_law_plan", "_law_number", "_law_some", "_law_states", "_law_long", "_law_trees", "_law_k", "_law_first", "_law_tree_here", "_law_gone_here", "_law_failed", "_law_due", "_law_turn", "_law_fine", "_law_many", "_law_place", "_law_alone", "_law_state", "_law_one"]
theorem sc_law : FnScope nm_law ["_law_script"] (defScope s_law) := ⟨rfl, rfl, rfl, by decide +kernel, rfl, by decide +kernel, by decide +kernel⟩
/- slots of law: 0 _law_script, 1 _law_plain, 2 _law_plan, 3 _law_number, 4 _law_some, 5 _law_states, 6 _law_long, 7 _law_trees, 8 _law_k, 9 _law_first, 10 _law_tree_here, 11 _law_gone_here, 12 _law_failed, 13 _law_due, 14 _law_turn, 15 _law_fine, 16 _law_many, 17 _law_place, 18 _law_alone, 19 _law_state, 20 _law_one -/
theorem ok_law (B : Bs K mg) (H_w_fails : Fn P w K mg base ns "_law_fails" 10 ["_law_plain", "_law_state", "_law_deeds_here"] [] sp_w_fails) (H_w_deeds : Fn P w K mg base ns "_law_deeds" 1 ["_law_plain", "_law_plan"] [] sp_w_deeds) (H_tree_fails : Fn P w K mg base ns "tree_fails" 12 ["plain", "some", "tree"] [] sp_tree_fails) (H_w_gone : Fn P w K mg base ns "_law_gone" 21 ["_law_plain", "_law_first", "_law_tree_here"] [] sp_w_gone) (H_w_grown : Fn P w K mg base ns "_law_grown" 15 ["_law_plain", "_law_state", "_law_number", "_law_deep"] [] (sp_w_grown 6)) (H_w_mixed : Fn P w K mg base ns "_law_mixed" 1 ["_law_number", "_law_k"] [] sp_w_mixed) (H_w_tree : Fn P w K mg base ns "_law_tree" 7 ["_law_plain", "_law_number", "_law_deep"] [] (sp_w_tree 6)) (H_tree_of : Fn P w K mg base ns "tree_of" 3 ["plain", "plan"] [] sp_tree_of) (H_worlds_of : Fn P w K mg base ns "worlds_of" 3 ["plain", "some"] [] sp_worlds_of) (H_w_cell : Fn P w K mg base ns "_law_cell" 1 ["_law_script", "_law_k"] [] sp_w_cell) (H_w_world : Fn P w K mg base ns "_law_world" 14 ["_law_script", "_law_most"] [] sp_w_world) (H_w_is_long_right : FnG P w K mg base ns "_law_is_long_right" 31 ["_law_number"] sp_w_long) : FnG P w K mg base ns "law" (40 + 1) ["_law_script"] sp_law := by
  obtain ⟨fd, F⟩ := B.says.def_ 36 (d := d_law) rfl
  refine ⟨_, fd, okDG (ns := ns) F sc_law (fun rs n Q h => ?len) (fun cdv A outer s H E hr hG => ⟨_, PSs.nox (pss_cons (ps_if (pt_not (pt_val (pe_fnG H_w_is_long_right (hr.mono (by omega)) hG (by rfl) (pa_cons (pe_fn H_w_cell (hr.mono (by omega)) (by rfl) (pa_cons (pv 0) (pa_cons pe_int pa_nil))) pa_nil)))) (pss_one (ps_ret pe_bl)) pss_nil)
      (pss_cons (ps_asg (pe_fn H_w_world (hr.mono (by omega)) (by rfl) (pa_cons (pv 0) (pa_cons pe_int pa_nil))) (pg_tup (n := 2) rfl (pgs_cons (pg_name (i := 1) sc_law.nd rfl (.inr rfl)) (pgs_cons (pg_name (i := 2) sc_law.nd rfl (.inl rfl)) pgs_nil))))
      (pss_cons (ps_set (i := 3) sc_law.nd rfl (.inr rfl) (pe_fn H_w_cell (hr.mono (by omega)) (by rfl) (pa_cons (pv 0) (pa_cons pe_int pa_nil))))
      (pss_cons (ps_set (i := 4) sc_law.nd rfl (.inl rfl) (pe_callTy call_tupA (by rfl) (B.free 50 _ rfl) (by decide +kernel) (pa_cons (pe_slice slD (pe_lc (own := [("_law_k", 8)]) (g := gName 8) (tt := (tTest (tOp (rEqM K) (tOp (rI (fun _ j => 0 < j) fun i j => V.int (i % j)) (tCall (spOf ⟨K, ns, w⟩ sp_w_mixed) [] E0 (tCons (tVar 3) (tCons (tVar 8) tNil))) (tC (V.int 3))) (tC (V.int 0))))) (te := (tVar 8)) rfl sc_law.nd (pi_range1 (by rfl) (B.free 46 _ rfl) (pa_cons (pe_callB call_lenA (by rfl) (B.free 43 _ rfl) PySem.boot_len (pa_cons (pe_ix (ixA hr.units) (pv 1) pe_int (fun _ _ => rfl)) pa_nil)) pa_nil)) (blkOk_by (own := [("_law_k", 8)]) (N := nm_law) (sc := defScope s_law) (by decide +kernel)) (fun _ _ _ _ _ => (pg_name (i := 8) sc_law.nd rfl (.inl rfl))) (fun _ _ _ _ _ => pts_one (pt_cmpR (op_eqM hr.units) (pe_op op_mod (pe_fn H_w_mixed (hr.mono (by omega)) (by rfl) (pa_cons (pv 3) (pa_cons (pv 8) pa_nil))) pe_int) pe_int (nomark _))) (fun _ _ _ _ _ => (pv 8))) po_none (po_some pe_int)) pa_nil)))
      (pss_cons (ps_set (i := 5) sc_law.nd rfl (.inl rfl) (pe_fn H_worlds_of (hr.mono (by omega)) (by rfl) (pa_cons (pv 1) (pa_cons (pv 4) pa_nil))))
      (pss_cons (ps_set (i := 6) sc_law.nd rfl (.inl rfl) (pe_fn H_tree_of (hr.mono (by omega)) (by rfl) (pa_cons (pv 1) (pa_cons (pv 2) pa_nil))))
      (pss_cons (ps_set (i := 7) sc_law.nd rfl (.inl rfl) (pe_lst (pa_cons (pe_fn H_w_tree (hr.mono (by omega)) (by rfl) (pa_cons (pv 1) (pa_cons (pe_fn H_w_mixed (hr.mono (by omega)) (by rfl) (pa_cons (pv 3) (pa_cons pe_int pa_nil))) (pa_cons pe_int pa_nil)))) (pa_cons (pv 6) (pa_cons (pe_tup (pa_cons pe_str (pa_cons (pe_op op_mod (pv 3) (pe_callB call_lenA (by rfl) (B.free 43 _ rfl) PySem.boot_len (pa_cons (pe_ix (ixA hr.units) (pv 1) pe_int (fun _ _ => rfl)) pa_nil))) (pa_cons (pv 6) (pa_cons (pv 6) pa_nil))))) pa_nil)))))
      (pss_cons (ps_for PassesOwn.never rfl (pi_range1 (by rfl) (B.free 46 _ rfl) (pa_cons pe_int pa_nil)) (pg_name (i := 8) sc_law.nd rfl (.inl rfl)) (pss_cons (ps_set (i := 9) sc_law.nd rfl (.inl rfl) (pe_ix (ixA hr.units) (pv 5) (pe_op op_mod (pe_fn H_w_mixed (hr.mono (by omega)) (by rfl) (pa_cons (pv 3) (pa_cons (pe_op op_plus pe_int (pv 8)) pa_nil))) (pe_callB call_lenA (by rfl) (B.free 43 _ rfl) PySem.boot_len (pa_cons (pv 5) pa_nil))) (fun _ _ => rfl)))
      (pss_one (ps_expr (pe_bm PySem.F.plainAttrs_list PySem.F.slot_list_append PySem.F.type_list_append mt_append (pv 7) (pa_cons (pe_fn H_w_grown (hr.mono (by omega)) (by rfl) (pa_cons (pv 1) (pa_cons (pv 9) (pa_cons (pe_fn H_w_mixed (hr.mono (by omega)) (by rfl) (pa_cons (pv 3) (pa_cons (pe_op op_plus pe_int (pv 8)) pa_nil))) (pa_cons pe_int pa_nil))))) pa_nil))))))
      (pss_cons (ps_for PassesOwn.never rfl (pi_enum (by rfl) (B.free 40 _ rfl) (pa_cons (pv 7) pa_nil)) (pg_tup (n := 2) rfl (pgs_cons (pg_name (i := 8) sc_law.nd rfl (.inl rfl)) (pgs_cons (pg_name (i := 10) sc_law.nd rfl (.inr rfl)) pgs_nil))) (pss_cons (ps_setLc (i := 11) (own := [("_law_state", 19)]) (g := gName 19) (tt := tYes) (te := (tCall (spOf ⟨K, ns, w⟩ sp_w_gone) [] E0 (tCons (tVar 1) (tCons (tVar 19) (tCons (tVar 10) tNil))))) rfl sc_law.nd rfl rfl (sw_true rfl rfl rfl (by decide +kernel)) (pi_tup (pv 5)) (blkOk_by (own := [("_law_state", 19)]) (N := nm_law) (sc := defScope s_law) (by decide +kernel)) (fun _ _ _ _ _ => (pg_name (i := 19) sc_law.nd rfl (.inl rfl))) (fun _ _ _ _ _ => pts_nil) (fun _ _ _ _ _ => (pe_fn H_w_gone (hr.mono (by omega)) (by rfl) (pa_cons (pv 1) (pa_cons (pv 19) (pa_cons (pv 10) pa_nil))))))
      (pss_cons (ps_setLc (i := 12) (own := [("_law_one", 20)]) (g := gName 20) (tt := (tTest (tOp (rNotN) (tVar 20) (tC V.non)))) (te := (tVar 20)) rfl sc_law.nd rfl rfl (sw_true rfl rfl rfl (by decide +kernel)) (pi_list (pv 11)) (blkOk_by (own := [("_law_one", 20)]) (N := nm_law) (sc := defScope s_law) (by decide +kernel)) (fun _ _ _ _ _ => (pg_name (i := 20) sc_law.nd rfl (.inl rfl))) (fun _ _ _ _ _ => pts_one (pt_cmpR op_some (pv 20) pe_non (nomark _))) (fun _ _ _ _ _ => (pv 20)))
      (pss_cons (ps_set (i := 13) sc_law.nd rfl (.inl rfl) (pe_ifExp (pt_cmpR (op_neM hr.units) (pv 12) (pe_lst pa_nil) (nomark _)) (pe_ix (ixA hr.units) (pv 12) pe_int (fun _ _ => rfl)) pe_non))
      (pss_cons (ps_for PassesOwn.never rfl (pi_range1 (by rfl) (B.free 46 _ rfl) (pa_cons pe_int pa_nil)) (pg_name (i := 14) sc_law.nd rfl (.inl rfl)) (pss_one (ps_if (pt_cmpR op_ne (pe_callB (call_reprD hr.units hG) (by rfl) (B.free 47 _ rfl) (by decide +kernel) (pa_cons (pe_fn H_tree_fails (hr.mono (by omega)) (by rfl) (pa_cons (pv 1) (pa_cons (pv 5) (pa_cons (pv 10) pa_nil)))) pa_nil)) (pe_callB (call_reprD hr.units hG) (by rfl) (B.free 47 _ rfl) (by decide +kernel) (pa_cons (pv 13) pa_nil)) (nomark _)) (pss_one (ps_ret pe_bl)) pss_nil)))
      (pss_cons (ps_setLc (i := 15) (own := [("_law_state", 19), ("_law_one", 20)]) (g := gTup K 2 (gCons (gName 19) (gCons (gName 20) gNil))) (tt := (tTest (tOp (rIsN) (tVar 20) (tC V.non)))) (te := (tVar 19)) rfl sc_law.nd rfl rfl (sw_true rfl rfl rfl (by decide +kernel)) (pi_zipTL (by rfl) (B.free 51 _ rfl) (pa_cons (pv 5) (pa_cons (pv 11) pa_nil))) (blkOk_by (own := [("_law_state", 19), ("_law_one", 20)]) (N := nm_law) (sc := defScope s_law) (by decide +kernel)) (fun _ _ _ _ _ => (pg_tup (n := 2) rfl (pgs_cons (pg_name (i := 19) sc_law.nd rfl (.inl rfl)) (pgs_cons (pg_name (i := 20) sc_law.nd rfl (.inl rfl)) pgs_nil)))) (fun _ _ _ _ _ => pts_one (pt_cmpR op_none (pv 20) pe_non (nomark _))) (fun _ _ _ _ _ => (pv 19)))
      (pss_cons (ps_if (PW.pt (pw_and (pt_cmpR (op_neM hr.units) (pv 15) (pe_lst pa_nil) (nomark _)) (pw_and1 (pt_cmpR op_some (pv 13) pe_non (nomark _))))) (pss_cons (ps_set (i := 16) sc_law.nd rfl (.inl rfl) (pe_op op_plus (pe_callTy call_tupA (by rfl) (B.free 50 _ rfl) (by decide +kernel) (pa_cons (pe_op op_times (pe_slice slD (pv 15) po_none (po_some pe_int)) pe_int) pa_nil)) (pe_slice slD (pv 13) po_none (po_some pe_int))))
      (pss_one (ps_if (pt_cmpR op_ne (pe_callB (call_reprD hr.units hG) (by rfl) (B.free 47 _ rfl) (by decide +kernel) (pa_cons (pe_fn H_tree_fails (hr.mono (by omega)) (by rfl) (pa_cons (pv 1) (pa_cons (pv 16) (pa_cons (pv 10) pa_nil)))) pa_nil)) (pe_callB (call_reprD hr.units hG) (by rfl) (B.free 47 _ rfl) (by decide +kernel) (pa_cons (pv 13) pa_nil)) (nomark _)) (pss_one (ps_ret pe_bl)) pss_nil))) pss_nil)
      (pss_one (ps_for PassesOwn.never rfl (pi_range3 (by rfl) (B.free 46 _ rfl) (pa_cons (pe_op op_mod (pv 8) pe_int) (pa_cons (pe_callB call_lenA (by rfl) (B.free 43 _ rfl) PySem.boot_len (pa_cons (pv 5) pa_nil)) (pa_cons pe_int pa_nil)))) (pg_name (i := 17) sc_law.nd rfl (.inl rfl)) (pss_one (ps_if (pt_cmpR op_ne (pe_callB (call_reprD hr.units hG) (by rfl) (B.free 47 _ rfl) (by decide +kernel) (pa_cons (pe_fn H_tree_fails (hr.mono (by omega)) (by rfl) (pa_cons (pv 1) (pa_cons (pe_tup (pa_cons (pe_ix (ixA hr.units) (pv 5) (pv 17) (fun _ _ => rfl)) pa_nil)) (pa_cons (pv 10) pa_nil)))) pa_nil)) (pe_callB (call_reprD hr.units hG) (by rfl) (B.free 47 _ rfl) (by decide +kernel) (pa_cons (pe_ix (ixA hr.units) (pv 11) (pv 17) (fun _ _ => rfl)) pa_nil)) (nomark _)) (pss_one (ps_ret pe_bl)) pss_nil)))))))))))
      (pss_cons (ps_set (i := 18) sc_law.nd rfl (.inl rfl) (pe_fn H_tree_fails (hr.mono (by omega)) (by rfl) (pa_cons (pv 1) (pa_cons (pe_tup (pa_cons (pe_ix (ixA hr.units) (pv 1) pe_int (fun _ _ => rfl)) pa_nil)) (pa_cons (pe_ix (ixA hr.units) (pv 7) pe_int (fun _ _ => rfl)) pa_nil)))))
      (pss_one (ps_ret (pe_cmpR (op_eqM hr.units) (pe_cmpR op_none (pv 18) pe_non (nomark _)) (pe_cmpR op_none (pe_fn H_w_fails (hr.mono (by omega)) (by rfl) (pa_cons (pv 1) (pa_cons (pe_ix (ixA hr.units) (pv 1) pe_int (fun _ _ => rfl)) (pa_cons (pe_fn H_w_deeds (hr.mono (by omega)) (by rfl) (pa_cons (pv 1) (pa_cons (pv 2) pa_nil))) pa_nil)))) pe_non (nomark _)) (nomark _)))))))))))))), fun rs n Q h => ?walk⟩), B.glo 36 _ rfl, F.kp, F.bindsN fun _ _ _ _ _ _ us hl => match us, hl with | [_], _ => rfl⟩
  case len =>
    obtain ⟨rfl, _⟩ := h
    rfl
  case walk =>
    obtain ⟨rfl, hQ⟩ := h
    show SW _ _ [.s, .u, .u, .u, .u, .u, .u, .u, .u, .u, .u, .u, .u, .u, .u, .u, .u, .u, .u, .u, .u] n _
    dsimp only [cxOf]
    walk_at "go"
    refine ⟨701, rfl, by decide, by decide, fun v0 hv0 => ⟨rfl, ?_⟩⟩
    walk_at "go"
    refine ⟨v0, rfl, rfl, ?_⟩
    walk_at "go"
    refine ⟨rfl, fun W ls hW hM hA hD hl hls => ⟨rfl, ?_⟩⟩
    walk_at "go"
    refine ⟨700, rfl, by decide, by decide, fun vn hvn => ⟨rfl, ?_⟩⟩
    walk_at "go"
    have hat := hW.atoms
    refine ⟨by omega, by omega, by rw [rangeD_len]; omega, comp_inv (fun ds acc => ∃ (lo : Nat) (fs : List Nat), acc = fs.map natD ∧ fs.Pairwise (· < ·) ∧ (∀ f ∈ fs, f < lo) ∧ lo + ds.length = W.atoms.length ∧ ∀ i, i < ds.length → ds[i]? = some (natD (lo + i))) (fun acc h => ?_) (fun d ds acc h => ?_) _ _ ⟨0, [], rfl, List.Pairwise.nil, (fun f hf => by cases hf), by rw [rangeD_len, Int.toNat_natCast, Nat.zero_add], fun i hi => ?_⟩⟩
    · obtain ⟨lo, fs, rfl, hp, hf, hlo, _⟩ := h
      rw [List.length_nil, Nat.add_zero] at hlo
      subst hlo
      walk_at "go"
      refine lw_L (.inl rfl) ?_
      rw [show Dl.cutD (fs.map natD) none (some 5) = (fs.take 5).map natD from by rw [List.map_take]; exact cut_take _ 5]
      walk_at "go"
      have hf5 : (fs.take 5).length ≤ 5 := List.length_take_le _ _
      refine ⟨W, fs.take 5, rfl, hW, hf5, rises_of (hp.sublist (List.take_sublist _ _)) (fun f h => ⟨Nat.zero_le _, hf f (List.mem_of_mem_take h)⟩), fun sts hsl hsts => ⟨rfl, ?_⟩⟩
      have h32 : 2 ^ (fs.take 5).length ≤ 2 ^ 5 := Nat.pow_le_pow_right (by decide) hf5
      have h1 : 1 ≤ 2 ^ (fs.take 5).length := Nat.one_le_pow _ _ (by decide)
      have hs1 : 1 ≤ sts.length := by omega
      have hs2 : sts.length ≤ 32 := by omega
      clear h32 h1 hsl hf5 hp hf
      walk_at "go"
      refine ⟨W, ls, rfl, hW, hl, hls, rfl, ?_⟩
      obtain ⟨lo1, lo2, lo3⟩ := tree_of_ok hls
      walk_at "go"
      refine ⟨by decide, fun u1 hu1 => ⟨rfl, ?_⟩⟩
      walk_at "go"
      refine ⟨W, u1, 6, rfl, hW, hA, hD, by decide, by decide, fun t1 o1 d1 z1 => ⟨rfl, ?_⟩⟩
      have z1 : t1.size < 64 := z1
      have hAi : (0 : Int) < (W.atoms.length : Nat) := by omega
      walk_at "go"
      obtain ⟨j, ej, hj⟩ := nat_mod vn hA
      rw [ej]
      generalize fs.take 5 = fs
      refine ⟨by decide, by decide, loop_inv (fun ds G n1 => ∃ (ts : List Tree) (a8 a9 : Rs), G = [.s, .d W.enc, .d (.tuple ls), .d (.int vn), .d (.tuple (fs.map natD)), .d (.tuple (sts.map Sta.enc)), .d (treeOf ls).enc, .l (ts.map Tree.enc), a8, a9, .u, .u, .u, .u, .u, .u, .u, .u, .u, .u, .u] ∧ n1 = n ∧ (∀ t ∈ ts, t.ok W ∧ t.deep ≤ 20 ∧ t.size ≤ 200) ∧ ts[1]? = some (treeOf ls) ∧ ts.length + ds.length ≤ 6 ∧ ∀ x ∈ ds, ∃ i : Nat, i < 3 ∧ x = .int (i : Nat)) ?_ ?_ _ _ _ ⟨[t1, treeOf ls, .ask j (treeOf ls) (treeOf ls)], _, _, rfl, rfl, fun t ht => ?_, rfl, by rw [rangeD_len]; exact Nat.le_of_ble_eq_true rfl, fun x hx => ?_⟩⟩
      · rintro G n1 ⟨ts, a8, a9, rfl, rfl, hts, hts1, htl, _⟩
        walk_at "go"
        refine loop_inv (fun ds G n2 => ∃ (pre : Nat) (rest : List Tree) (a8 a10 a11 a12 a13 a14 a15 a16 a17 : Rs), ds = enumD pre (rest.map Tree.enc) ∧ G = [.s, .d W.enc, .d (.tuple ls), .d (.int vn), .d (.tuple (fs.map natD)), .d (.tuple (sts.map Sta.enc)), .d (treeOf ls).enc, .r (ts.map Tree.enc), a8, a9, a10, a11, a12, a13, a14, a15, a16, a17, .u, .u, .u] ∧ n2 = n1 ∧ ∀ t ∈ rest, t.ok W ∧ t.deep ≤ 20 ∧ t.size ≤ 200) ?_ ?_ _ _ _ ⟨0, ts, _, _, _, _, _, _, _, _, _, rfl, rfl, rfl, hts⟩
        · rintro G n2 ⟨pre, rest, a8, a10, a11, a12, a13, a14, a15, a16, a17, _, rfl, rfl, _⟩
          walk_at "go"
          refine ow_ixL (.inr rfl) (atI_nat (i := 1) (show (ts.map Tree.enc)[1]? = some (treeOf ls).enc by rw [List.getElem?_map, hts1]; rfl)) ?_
          walk_at "go"
          refine ⟨W, [W.start], treeOf ls, rfl, hW, Nat.le_of_ble_eq_true rfl, Nat.le_of_ble_eq_true rfl, fun s hs => by rw [List.mem_singleton.1 hs]; exact ⟨hW.start, hW.st0, hW.st1⟩, lo1, by omega, by omega, rfl, ?_⟩
          walk_at "go"
          refine ⟨W, ls, rfl, hW, hl, hls, rfl, ?_⟩
          walk_at "go"
          refine ⟨W, W.start, deedsOf W ls, rfl, hW, hW.start, fun d hd => ?_, fun x hx => ⟨rfl, ?_⟩⟩
          · obtain ⟨l, _, e⟩ := List.mem_filterMap.1 hd
            exact hW.deeds d (find_mem e).1
          · walk_at "go"
            refine ow_eqB ?_
            rw [fails_one, failing_ok hls, hx, beq_self_eq_true]
            exact hQ
        · rintro x ds G n2 ⟨pre, rest, a8, a10, a11, a12, a13, a14, a15, a16, a17, e, rfl, rfl, hr⟩
          cases rest with
          | nil => cases e
          | cons t rest =>
            rw [List.map_cons, enumD] at e
            obtain ⟨rfl, rfl⟩ := List.cons.inj e
            obtain ⟨to, td, tz⟩ := hr t (List.mem_cons_self ..)
            have hr2 : ∀ t ∈ rest, t.ok W ∧ t.deep ≤ 20 ∧ t.size ≤ 200 := fun x hx => hr x (List.mem_cons_of_mem _ hx)
            walk_at "put2"
            walk_at "go"
            refine ⟨by rw [List.length_map]; omega, comp_mapE Sta.enc (failing W t) _ _ (fun s hs => ?_) ?_⟩
            · walk_at "put1"
              walk_at "go"
              exact ⟨W, s, t, rfl, hW, (hsts s hs).len, to, td, rfl, rfl, rfl⟩
            · rw [List.nil_append]
              walk_at "go"
              refine ⟨by rw [List.length_map]; omega, comp_fm (fun x => !isNone x) (fun x => x) _ _ (fun x hx2 => ?_) ?_⟩
              · walk_at "put1"
                walk_at "go"
                exact fun _ => by walk_at "go"
              · rw [List.nil_append, List.map_id']
                obtain ⟨dh1, dh2⟩ := due_head W t sts
                walk_at "go"
                refine ew_due rfl dh1 dh2 ?_
                walk_at "gol"
                have hsh := sh_fails hW hM to td hsts
                refine ⟨by decide, by decide, loop_inv (fun ds G n3 => ∃ a14 : Rs, G = [.s, .d W.enc, .d (.tuple ls), .d (.int vn), .d (.tuple (fs.map natD)), .d (.tuple (sts.map Sta.enc)), .d (treeOf ls).enc, .r (ts.map Tree.enc), .d (.int (pre : Nat)), a9, .d t.enc, .l (sts.map (failing W t)), .l ((sts.map (failing W t)).filter fun x => !isNone x), .d (fails W t sts), a14, a15, a16, a17, .u, .u, .u] ∧ n3 = n2) ?_ ?_ _ _ _ ⟨_, rfl, rfl⟩⟩
                · rintro G n3 ⟨a14, rfl, rfl⟩
                  walk_at "go"
                  refine wi_zipM rfl ?_
                  walk_at "go"
                  refine ⟨by rw [List.length_map, List.length_map], rfl, by rw [zipD_map, List.length_map]; omega, ?_⟩
                  rw [zipD_map]
                  refine comp_fmE (fun s => .tuple [s.enc, failing W t s]) (fun s => isNone (failing W t s)) Sta.enc _ _ (fun s hs => ?_) ?_
                  · walk_at "put2"
                    walk_at "go"
                    exact fun _ => by walk_at "go"
                  · rw [List.nil_append]
                    walk_at "go"
                    refine br_2 (fun b1 => ?_) (fun b1 => ?_)
                    · walk_at "go"
                      refine br_2 (fun b2 => ?_) (fun b2 => ?_)
                      · walk_at "go"
                        rw [Bool.not_eq_true'] at b2
                        obtain ⟨s0, hs0, p, x, ef, eg⟩ := fails_some b2
                        cases eF : sts.filter (fun s => isNone (failing W t s)) with
                        | nil =>
                          rw [eF] at b1
                          cases b1
                        | cons f0 r =>
                          have hf0 : f0 ∈ sts.filter (fun s => isNone (failing W t s)) := by
                            rw [eF]
                            exact List.mem_cons_self ..
                          obtain ⟨hf1, hf2⟩ := List.mem_filter.1 hf0
                          refine lw_L (.inr rfl) ?_
                          rw [show Dl.cutD (List.map Sta.enc (f0 :: r)) none (some 1) = [f0.enc] from (cut_take _ 1).trans rfl]
                          walk_at "go"
                          refine ow_mulL (.inl rfl) (by decide) (by decide) (Nat.le_of_ble_eq_true rfl) ?_
                          walk_at "go"
                          have hsh2 := hsh
                          rw [ef] at hsh2
                          rw [ef]
                          refine lw_T (xs := [s0.enc, .tuple p, x]) ?_
                          rw [show Dl.cutD [s0.enc, .tuple p, x] none (some 1) = [s0.enc] from (cut_take _ 1).trans rfl, List.flatten_replicate_singleton]
                          refine ow_addT (by rw [List.length_replicate]; exact Nat.le_of_ble_eq_true rfl) ?_
                          have em : List.replicate (Int.toNat 40) f0.enc ++ [s0.enc] = (List.replicate 40 f0 ++ [s0]).map Sta.enc := by
                            rw [List.map_append, List.map_replicate]
                            rfl
                          rw [em]
                          have hin2 : ∀ s ∈ List.replicate 40 f0 ++ [s0], StaIn W s := fun s hs => by
                            rcases List.mem_append.1 hs with hs | hs
                            · rw [List.eq_of_mem_replicate hs]
                              exact hsts f0 hf1
                            · rw [List.mem_singleton.1 hs]
                              exact hsts s0 hs0
                          have el : fails W t (List.replicate 40 f0 ++ [s0]) = .tuple [s0.enc, .tuple p, x] := by
                            rw [fails_skip (fun s hs => by rw [List.eq_of_mem_replicate hs]; exact hf2), fails_one, eg]
                          have hml : (List.replicate 40 f0 ++ [s0]).length = 41 := by
                            rw [List.length_append, List.length_replicate]
                            rfl
                          generalize List.replicate 40 f0 ++ [s0] = many at hin2 el hml
                          walk_at "go"
                          refine ⟨W, many, t, rfl, hW, by omega, by omega, hin2, to, td, tz, rfl, ?_⟩
                          rw [el]
                          walk_at "go"
                          refine cw_reprT hsh2.show_ hsh2.ints_ (Nat.le_trans hsh2.dep (by decide)) (Nat.le_trans hsh2.wt (by decide)) ?_
                          walk_at "go"
                          refine cw_reprT hsh2.show_ hsh2.ints_ (Nat.le_trans hsh2.dep (by decide)) (Nat.le_trans hsh2.wt (by decide)) ?_
                          refine ow_neX ?_
                          walk_at "go"
                          refine br_f (by rw [decide_eq_true rfl]; rfl) ?_
                          rw [← ef]
                          walk_at "go"
                          refine wi_range3 ?_
                          walk_at "go"
                          obtain ⟨m, hm1, hm2⟩ := rg5 (a := (pre : Nat) % 2) (b := ((sts.map Sta.enc).length : Nat)) (by omega) (by omega) (by omega) (by rw [List.length_map]; omega)
                          refine ⟨_, _, _, m, rfl, hm1, ?_⟩
                          refine loop_inv (fun ds G n4 => ∃ (a14 a15 a16 a17 : Rs), G = [.s, .d W.enc, .d (.tuple ls), .d (.int vn), .d (.tuple (fs.map natD)), .d (.tuple (sts.map Sta.enc)), .d (treeOf ls).enc, .r (ts.map Tree.enc), .d (.int (pre : Nat)), a9, .d t.enc, .l (sts.map (failing W t)), .l ((sts.map (failing W t)).filter fun x => !isNone x), .d (fails W t sts), a14, a15, a16, a17, .u, .u, .u] ∧ n4 = n3 ∧ ∀ x ∈ ds, ∃ i : Nat, i < sts.length ∧ x = .int (i : Nat)) ?_ ?_ _ _ _ ⟨_, _, _, _, rfl, rfl, fun x hx => ?_⟩
                          · rintro G n4 ⟨a14, a15, a16, a17, rfl, rfl, _⟩
                            walk_at "go"
                            exact ⟨pre + 1, rest, _, _, _, _, _, _, _, _, _, rfl, rfl, rfl, hr2⟩
                          · rintro x ds G n4 ⟨a14, a15, a16, a17, rfl, rfl, hx⟩
                            obtain ⟨i, hi, rfl⟩ := hx x (List.mem_cons_self ..)
                            have e1 : atI (sts.map Sta.enc) (i : Nat) = some (sts[i]).enc := atI_nat (by rw [List.getElem?_map, List.getElem?_eq_getElem hi]; rfl)
                            have e2 : atI (sts.map (failing W t)) (i : Nat) = some (failing W t sts[i]) := atI_nat (by rw [List.getElem?_map, List.getElem?_eq_getElem hi]; rfl)
                            have hin := hsts _ (List.getElem_mem hi)
                            have hsh1 := sh_failing hW hM hin to td
                            walk_at "put1"
                            walk_at "go"
                            refine ow_ixT e1 ?_
                            walk_at "go"
                            refine ⟨W, [sts[i]], t, rfl, hW, Nat.le_of_ble_eq_true rfl, Nat.le_of_ble_eq_true rfl, fun s hs => by rw [List.mem_singleton.1 hs]; exact hin, to, td, tz, rfl, ?_⟩
                            rw [fails_one]
                            walk_at "go"
                            refine cw_reprT hsh1.show_ hsh1.ints_ (Nat.le_trans hsh1.dep (by decide)) (Nat.le_trans hsh1.wt (by decide)) ?_
                            walk_at "go"
                            refine ow_ixL (.inr rfl) e2 ?_
                            walk_at "go"
                            refine cw_reprT hsh1.show_ hsh1.ints_ (Nat.le_trans hsh1.dep (by decide)) (Nat.le_trans hsh1.wt (by decide)) ?_
                            refine ow_neX ?_
                            walk_at "go"
                            refine br_f (by rw [decide_eq_true rfl]; rfl) ?_
                            walk_at "go"
                            exact ⟨_, _, _, _, rfl, rfl, fun x hx2 => hx x (List.mem_cons_of_mem _ hx2)⟩
                          · obtain ⟨i, hi, rfl⟩ := range_nat hx
                            have := hm2 i hi
                            rw [List.length_map] at this
                            exact ⟨((pre : Nat) % 2 + i * 5), by omega, by congr 1⟩
                      · walk_at "go"
                        refine wi_range3 ?_
                        walk_at "go"
                        obtain ⟨m, hm1, hm2⟩ := rg5 (a := (pre : Nat) % 2) (b := ((sts.map Sta.enc).length : Nat)) (by omega) (by omega) (by omega) (by rw [List.length_map]; omega)
                        refine ⟨_, _, _, m, rfl, hm1, ?_⟩
                        refine loop_inv (fun ds G n4 => ∃ (a14 a15 a16 a17 : Rs), G = [.s, .d W.enc, .d (.tuple ls), .d (.int vn), .d (.tuple (fs.map natD)), .d (.tuple (sts.map Sta.enc)), .d (treeOf ls).enc, .r (ts.map Tree.enc), .d (.int (pre : Nat)), a9, .d t.enc, .l (sts.map (failing W t)), .l ((sts.map (failing W t)).filter fun x => !isNone x), .d (fails W t sts), a14, a15, a16, a17, .u, .u, .u] ∧ n4 = n3 ∧ ∀ x ∈ ds, ∃ i : Nat, i < sts.length ∧ x = .int (i : Nat)) ?_ ?_ _ _ _ ⟨_, _, _, _, rfl, rfl, fun x hx => ?_⟩
                        · rintro G n4 ⟨a14, a15, a16, a17, rfl, rfl, _⟩
                          walk_at "go"
                          exact ⟨pre + 1, rest, _, _, _, _, _, _, _, _, _, rfl, rfl, rfl, hr2⟩
                        · rintro x ds G n4 ⟨a14, a15, a16, a17, rfl, rfl, hx⟩
                          obtain ⟨i, hi, rfl⟩ := hx x (List.mem_cons_self ..)
                          have e1 : atI (sts.map Sta.enc) (i : Nat) = some (sts[i]).enc := atI_nat (by rw [List.getElem?_map, List.getElem?_eq_getElem hi]; rfl)
                          have e2 : atI (sts.map (failing W t)) (i : Nat) = some (failing W t sts[i]) := atI_nat (by rw [List.getElem?_map, List.getElem?_eq_getElem hi]; rfl)
                          have hin := hsts _ (List.getElem_mem hi)
                          have hsh1 := sh_failing hW hM hin to td
                          walk_at "put1"
                          walk_at "go"
                          refine ow_ixT e1 ?_
                          walk_at "go"
                          refine ⟨W, [sts[i]], t, rfl, hW, Nat.le_of_ble_eq_true rfl, Nat.le_of_ble_eq_true rfl, fun s hs => by rw [List.mem_singleton.1 hs]; exact hin, to, td, tz, rfl, ?_⟩
                          rw [fails_one]
                          walk_at "go"
                          refine cw_reprT hsh1.show_ hsh1.ints_ (Nat.le_trans hsh1.dep (by decide)) (Nat.le_trans hsh1.wt (by decide)) ?_
                          walk_at "go"
                          refine ow_ixL (.inr rfl) e2 ?_
                          walk_at "go"
                          refine cw_reprT hsh1.show_ hsh1.ints_ (Nat.le_trans hsh1.dep (by decide)) (Nat.le_trans hsh1.wt (by decide)) ?_
                          refine ow_neX ?_
                          walk_at "go"
                          refine br_f (by rw [decide_eq_true rfl]; rfl) ?_
                          walk_at "go"
                          exact ⟨_, _, _, _, rfl, rfl, fun x hx2 => hx x (List.mem_cons_of_mem _ hx2)⟩
                        · obtain ⟨i, hi, rfl⟩ := range_nat hx
                          have := hm2 i hi
                          rw [List.length_map] at this
                          exact ⟨((pre : Nat) % 2 + i * 5), by omega, by congr 1⟩
                    · walk_at "go"
                      refine wi_range3 ?_
                      walk_at "go"
                      obtain ⟨m, hm1, hm2⟩ := rg5 (a := (pre : Nat) % 2) (b := ((sts.map Sta.enc).length : Nat)) (by omega) (by omega) (by omega) (by rw [List.length_map]; omega)
                      refine ⟨_, _, _, m, rfl, hm1, ?_⟩
                      refine loop_inv (fun ds G n4 => ∃ (a14 a15 a16 a17 : Rs), G = [.s, .d W.enc, .d (.tuple ls), .d (.int vn), .d (.tuple (fs.map natD)), .d (.tuple (sts.map Sta.enc)), .d (treeOf ls).enc, .r (ts.map Tree.enc), .d (.int (pre : Nat)), a9, .d t.enc, .l (sts.map (failing W t)), .l ((sts.map (failing W t)).filter fun x => !isNone x), .d (fails W t sts), a14, a15, a16, a17, .u, .u, .u] ∧ n4 = n3 ∧ ∀ x ∈ ds, ∃ i : Nat, i < sts.length ∧ x = .int (i : Nat)) ?_ ?_ _ _ _ ⟨_, _, _, _, rfl, rfl, fun x hx => ?_⟩
                      · rintro G n4 ⟨a14, a15, a16, a17, rfl, rfl, _⟩
                        walk_at "go"
                        exact ⟨pre + 1, rest, _, _, _, _, _, _, _, _, _, rfl, rfl, rfl, hr2⟩
                      · rintro x ds G n4 ⟨a14, a15, a16, a17, rfl, rfl, hx⟩
                        obtain ⟨i, hi, rfl⟩ := hx x (List.mem_cons_self ..)
                        have e1 : atI (sts.map Sta.enc) (i : Nat) = some (sts[i]).enc := atI_nat (by rw [List.getElem?_map, List.getElem?_eq_getElem hi]; rfl)
                        have e2 : atI (sts.map (failing W t)) (i : Nat) = some (failing W t sts[i]) := atI_nat (by rw [List.getElem?_map, List.getElem?_eq_getElem hi]; rfl)
                        have hin := hsts _ (List.getElem_mem hi)
                        have hsh1 := sh_failing hW hM hin to td
                        walk_at "put1"
                        walk_at "go"
                        refine ow_ixT e1 ?_
                        walk_at "go"
                        refine ⟨W, [sts[i]], t, rfl, hW, Nat.le_of_ble_eq_true rfl, Nat.le_of_ble_eq_true rfl, fun s hs => by rw [List.mem_singleton.1 hs]; exact hin, to, td, tz, rfl, ?_⟩
                        rw [fails_one]
                        walk_at "go"
                        refine cw_reprT hsh1.show_ hsh1.ints_ (Nat.le_trans hsh1.dep (by decide)) (Nat.le_trans hsh1.wt (by decide)) ?_
                        walk_at "go"
                        refine ow_ixL (.inr rfl) e2 ?_
                        walk_at "go"
                        refine cw_reprT hsh1.show_ hsh1.ints_ (Nat.le_trans hsh1.dep (by decide)) (Nat.le_trans hsh1.wt (by decide)) ?_
                        refine ow_neX ?_
                        walk_at "go"
                        refine br_f (by rw [decide_eq_true rfl]; rfl) ?_
                        walk_at "go"
                        exact ⟨_, _, _, _, rfl, rfl, fun x hx2 => hx x (List.mem_cons_of_mem _ hx2)⟩
                      · obtain ⟨i, hi, rfl⟩ := range_nat hx
                        have := hm2 i hi
                        rw [List.length_map] at this
                        exact ⟨((pre : Nat) % 2 + i * 5), by omega, by congr 1⟩
                · rintro x ds G n3 ⟨a14, rfl, rfl⟩
                  walk_at "put1"
                  walk_at "go"
                  refine ⟨W, sts, t, rfl, hW, hs1, by omega, hsts, to, td, tz, rfl, ?_⟩
                  walk_at "go"
                  refine cw_reprT hsh.show_ hsh.ints_ (Nat.le_trans hsh.dep (by decide)) (Nat.le_trans hsh.wt (by decide)) ?_
                  walk_at "go"
                  refine cw_reprT hsh.show_ hsh.ints_ (Nat.le_trans hsh.dep (by decide)) (Nat.le_trans hsh.wt (by decide)) ?_
                  refine ow_neX ?_
                  walk_at "go"
                  refine br_f (by rw [decide_eq_true rfl]; rfl) ?_
                  walk_at "go"
      · rintro x ds G n1 ⟨ts, a8, a9, rfl, rfl, hts, hts1, htl, hx⟩
        obtain ⟨i, hi, rfl⟩ := hx x (List.mem_cons_self ..)
        rw [List.length_cons] at htl
        have hsl : 0 < (sts.map Sta.enc).length := by rw [List.length_map]; exact hs1
        walk_at "put1"
        walk_at "go"
        refine ⟨vn, 30 + (i : Nat), rfl, by omega, by omega, fun u hu => ⟨rfl, ?_⟩⟩
        walk_at "go"
        rw [List.length_map]
        obtain ⟨i2, ei, hi2⟩ := nat_mod u hs1
        rw [ei]
        have e1 : atI (sts.map Sta.enc) (i2 : Nat) = some (sts[i2]).enc := atI_nat (by rw [List.getElem?_map, List.getElem?_eq_getElem hi2]; rfl)
        refine ow_ixT e1 ?_
        walk_at "go"
        refine sw_append rfl (by rw [List.length_map]; omega) ?_
        walk_at "go"
        refine ⟨vn, 40 + (i : Nat), rfl, by omega, by omega, fun u2 hu2 => ⟨rfl, ?_⟩⟩
        walk_at "go"
        refine ⟨W, sts[i2], u2, 6, rfl, hW, hA, (hsts _ (List.getElem_mem hi2)).len, by decide, by decide, by decide, fun t2 o2 d2 z2 => ⟨rfl, ?_⟩⟩
        have z2 : t2.size < 64 := z2
        walk_at "go"
        refine ⟨ts ++ [t2], _, _, by rw [List.map_append]; rfl, rfl, fun t ht => ?_, ?_, by rw [List.length_append]; show ts.length + 1 + _ ≤ 6; omega, fun x hx2 => hx x (List.mem_cons_of_mem _ hx2)⟩
        · rcases List.mem_append.1 ht with ht | ht
          · exact hts t ht
          · rw [List.mem_singleton.1 ht]
            exact ⟨o2, by omega, by omega⟩
        · rw [List.getElem?_append_left (List.getElem?_eq_some_iff.1 hts1).1]
          exact hts1
      · rcases List.mem_cons.1 ht with rfl | ht
        · exact ⟨o1, by omega, by omega⟩
        rcases List.mem_cons.1 ht with rfl | ht
        · exact ⟨lo1, by omega, by omega⟩
        rw [List.mem_singleton.1 ht]
        exact ⟨⟨hj, lo1, lo1⟩, by show max _ _ + 1 ≤ 20; omega, by show _ + _ + 1 ≤ 200; omega⟩
      · obtain ⟨i, hi, rfl⟩ := range_nat hx
        exact ⟨i, hi, by rw [Int.mul_one, Int.zero_add]⟩
    · obtain ⟨lo, fs, rfl, hp, hf, hlo, hi⟩ := h
      have h0 := hi 0 (Nat.succ_pos _)
      have h0 : d = natD (lo + 0) := Option.some.inj h0
      rw [Nat.add_zero] at h0
      subst h0
      rw [List.length_cons] at hlo
      have next : ∀ i, i < ds.length → ds[i]? = some (natD (lo + 1 + i)) := fun i h => by
        have := hi (i + 1) (Nat.succ_lt_succ h)
        rw [List.getElem?_cons_succ] at this
        rw [this, Nat.add_assoc, Nat.add_comm 1 i]
      walk_at "put1"
      walk_at "go"
      refine ⟨vn, (lo : Nat), rfl, by omega, by omega, fun u hu => ⟨rfl, ?_⟩⟩
      walk_at "go"
      refine br_2 (fun _ => ?_) (fun _ => ?_)
      · walk_at "go"
        refine ⟨lo + 1, fs ++ [lo], by rw [List.map_append]; rfl, List.pairwise_append.2 ⟨hp, List.pairwise_singleton _ _, fun a ha b hb => by rw [List.mem_singleton.1 hb]; exact hf a ha⟩, fun f h => ?_, by omega, next⟩
        rcases List.mem_append.1 h with h | h
        · exact Nat.lt_succ_of_lt (hf f h)
        · rw [List.mem_singleton.1 h]
          exact Nat.lt_succ_self _
      · exact ⟨rfl, lo + 1, fs, rfl, hp, fun f h => Nat.lt_succ_of_lt (hf f h), by omega, next⟩
    · rw [rangeD_len] at hi
      unfold rangeD
      rw [List.getElem?_map, List.getElem?_range hi, Nat.zero_add]
      show some (PyData.int (0 + (i : Nat) * 1)) = _
      rw [Int.mul_one, Int.zero_add]
end
end Dd
set_option Elab.async false
set_option linter.all false
set_option maxRecDepth 100000
set_option autoImplicit false
/-! Ps: all defs joined, the head, the statement. -/
namespace Dd
open PySem PySem.Spec PyProof.Rows L2 Dl
section
variable {P : Program} {w : World} {K : PySem.W.Frag} {mg : Str → Option Value} {base : Heap} {ns : List Int}
theorem law_ok (B : Bs K mg) : FnG P w K mg base ns "law" 41 ["_law_script"] sp_law := by
  have h_holds : Fn P w K mg base ns "holds" 8 ["condition", "state"] [] (sp_holds 8) := fn_holds B 8
  have h_beyond : Fn P w K mg base ns "count_beyond" 1 ["plain", "deed", "state"] [] sp_count_beyond := ok_count_beyond (k := 0) B
  have h_behind : Fn P w K mg base ns "state_behind" 1 ["deed", "state"] [] sp_state_behind := ok_state_behind (k := 0) B
  have h_among : Fn P w K mg base ns "is_among" 1 ["thing", "least", "most"] [] sp_is_among := ok_is_among (k := 0) B
  have h_reason : Fn P w K mg base ns "reason_of" 9 ["condition", "state"] [] sp_reason_of := ok_reason_of B h_holds
  have h_fault : Fn P w K mg base ns "fault_of" 10 ["plain", "deed", "state"] [] sp_fault_of := ok_fault_of B (H_holds := h_holds) (H_reason_of := h_reason) (H_count_beyond := h_beyond)
  have h_state : Fn P w K mg base ns "is_state" 2 ["plain", "thing"] [] sp_is_state := ok_is_state B h_among
  have h_nstate : Fn P w K mg base ns "need_state" 3 ["plain", "thing"] [] sp_need_state := ok_need_state B h_state
  have h_nplan : Fn P w K mg base ns "need_plan" 2 ["plain", "plan", "most"] [.int 12] sp_need_plan := ok_need_plan B
  have h_kids : Fn P w K mg base ns "kids_of" 2 ["plain", "labels", "tree"] [] sp_kids_of := ok_kids_of B h_among
  have h_treeof : Fn P w K mg base ns "tree_of" 3 ["plain", "plan"] [] sp_tree_of := ok_tree_of B h_nplan
  have h_nfacts : Fn P w K mg base ns "need_facts" 2 ["plain", "some"] [] sp_need_facts := ok_need_facts B h_among
  have h_nstates : Fn P w K mg base ns "need_states" 4 ["plain", "some"] [] sp_need_states := ok_need_states B h_nstate
  have h_ntree : Fn P w K mg base ns "need_tree" 3 ["plain", "thing"] [] sp_need_tree := ok_need_tree B h_kids
  have h_worlds : Fn P w K mg base ns "worlds_of" 3 ["plain", "some"] [] sp_worlds_of := ok_worlds_of B h_nfacts
  have h_failing : Fn P w K mg base ns "failing" 11 ["plain", "by_label", "first", "tree"] [] sp_failing := ok_failing B (H_holds := h_holds) (H_reason_of := h_reason) (H_fault_of := h_fault) (H_state_behind := h_behind)
  have h_tfails : Fn P w K mg base ns "tree_fails" 12 ["plain", "some", "tree"] [] sp_tree_fails := ok_tree_fails B (H_need_states := h_nstates) (H_need_tree := h_ntree) (H_failing := h_failing)
  have w_holds : Fn P w K mg base ns "_law_holds" 8 ["_law_condition_here", "_law_state"] [] (sp_holds 8) := fn_w_holds B 8
  have w_done : Fn P w K mg base ns "_law_done" 9 ["_law_plain", "_law_deed_here", "_law_state"] [] sp_w_done := ok_w_done B w_holds
  have w_part : Fn P w K mg base ns "_law_part" 16 ["_law_condition_here", "_law_state"] [] (sp_w_part 8) := fn_w_part B 8
  have w_gone : Fn P w K mg base ns "_law_gone" 21 ["_law_plain", "_law_first", "_law_tree_here"] [] sp_w_gone := ok_w_gone B (H_w_done := w_done) (H_w_part := w_part)
  have w_deeds : Fn P w K mg base ns "_law_deeds" 1 ["_law_plain", "_law_plan"] [] sp_w_deeds := ok_w_deeds B
  have w_fails : Fn P w K mg base ns "_law_fails" 10 ["_law_plain", "_law_state", "_law_deeds_here"] [] sp_w_fails := ok_w_fails B (H_w_done := w_done) (H_w_holds := w_holds)
  have w_cell : Fn P w K mg base ns "_law_cell" 1 ["_law_script", "_law_k"] [] sp_w_cell := ok_w_cell B
  have w_mixed : Fn P w K mg base ns "_law_mixed" 1 ["_law_number", "_law_k"] [] sp_w_mixed := ok_w_mixed B
  have w_next : Fn P w K mg base ns "_law_next" 2 ["_law_draw"] [] sp_w_next := ok_w_next B w_cell
  have w_bits : Fn P w K mg base ns "_law_bits" 2 ["_law_number", "_law_facts", "_law_many"] [] sp_w_bits := ok_w_bits B w_mixed
  have w_names : Fn P w K mg base ns "_law_names" 2 ["_law_number"] [] sp_w_names := ok_w_names B w_mixed
  have w_literal : Fn P w K mg base ns "_law_literal" 9 ["_law_draw", "_law_facts", "_law_counts", "_law_state"] [] sp_w_literal := ok_w_literal B (H_w_next := w_next) (H_w_holds := w_holds)
  have w_cond : Fn P w K mg base ns "_law_condition" 12 ["_law_draw", "_law_facts", "_law_counts", "_law_deep"] [] (sp_w_condition 3) := fn_w_condition B w_next w_literal 3
  have w_deed : Fn P w K mg base ns "_law_deed" 13 ["_law_draw", "_law_label", "_law_facts", "_law_counts"] [] sp_w_deed := ok_w_deed B (H_w_next := w_next) (H_w_condition := w_cond) (H_w_mixed := w_mixed) (H_w_bits := w_bits)
  have w_walk : Fn P w K mg base ns "_law_walk" 10 ["_law_draw", "_law_plain", "_law_most"] [] sp_w_walk := ok_w_walk B (H_w_next := w_next) (H_w_done := w_done)
  have w_world : Fn P w K mg base ns "_law_world" 14 ["_law_script", "_law_most"] [] sp_w_world := ok_w_world B (H_w_names := w_names) (H_w_cell := w_cell) (H_w_next := w_next) (H_w_deed := w_deed) (H_w_bits := w_bits) (H_w_walk := w_walk) (H_w_condition := w_cond) (H_w_literal := w_literal)
  have w_tree : Fn P w K mg base ns "_law_tree" 7 ["_law_plain", "_law_number", "_law_deep"] [] (sp_w_tree 6) := fn_w_tree B w_mixed 6
  have w_grown : Fn P w K mg base ns "_law_grown" 15 ["_law_plain", "_law_state", "_law_number", "_law_deep"] [] (sp_w_grown 6) := fn_w_grown B w_mixed w_done w_holds 6
  have w_long : FnG P w K mg base ns "_law_is_long_right" 31 ["_law_number"] sp_w_long := ok_w_is_long_right B (H_tree_of := h_treeof) (H_w_gone := w_gone) (H_tree_fails := h_tfails)
  exact ok_law B (H_w_is_long_right := w_long) (H_w_cell := w_cell) (H_w_world := w_world) (H_w_mixed := w_mixed) (H_worlds_of := h_worlds) (H_tree_of := h_treeof) (H_w_tree := w_tree) (H_w_grown := w_grown) (H_w_gone := w_gone) (H_tree_fails := h_tfails) (H_w_fails := w_fails) (H_w_deeds := w_deeds)
end
abbrev R : PySem.W.OpenRow := PySem.W.OpenLaw.row PySem.Challenge.rw_deedrow_k36_whole_trees
abbrev hk : PySem.W.Hook := He.hookD 4 fa fn
def ob (s : PySem.W.SharedT) : He.AlD := He.obsDG 4 fa fn (HandSHeadRun.getT s)
theorem ob_eq (s : PySem.W.SharedT) : ob s = hk.obs s.abs := He.obsDG_eq (HandSHeadRun.getT_eq s)
theorem run_top (w : World) : HandSHeadRun.RunEq R (PySem.W.view R.prog [48]) hk ob 3000 loose w := by
  intro os
  kernel_rfl
/-- what the law's call asks -/
theorem facts {P : Program} {w : World} {K : PySem.W.Frag} {h : Heap} {mg : Str → Option Value} {f : Addr} (X : K.In h) (G : h.Ns mainGlobals mg) (hfa : mg ("law" : Str) = some (.ref f)) (c : He.SaysD fa fn K) :
    ∀ (a : Addr) (ns : List Int), ns.length ≤ 63 → ∃ sp : Sp, (∀ (H : Hp), Only H → SqL K H a (ns.map V.int) → sp [.ref a] H (fun v _ => v = .bl true) fun _ _ _ => False) ∧
      ∀ base : Heap, K.In base → base.Ns mainGlobals mg → ∃ fd, FnOkG P w K mg base 41 f fd ["_law_script"] sp ∧ ∀ (s : Shared) (u : Value), K.In s.heap → BindsTo s fd ⟨[u], []⟩ [("_law_script", u)] := fun a ns _ => by
  have B : Bs K mg := bs_mk X G c
  refine ⟨spOf ⟨K, ns, w⟩ sp_law, fun H _ hS => ?_, fun base _ _ => ?_⟩
  · refine ⟨⟨⟨K, ns, w⟩, H, none, a⟩, 0, [.s], fun r _ => r = .d (.bool true), rfl, rfl, ⟨fun b o e _ => e, hS, (fun _ z => nomatch z), .inl fun z => nomatch z⟩, .cons rfl .nil, rfl, ⟨rfl, rfl⟩, fun r n' v H' q k d r1 f1 => ?_⟩
    subst q
    cases r1
    rfl
  · obtain ⟨f', fd, ok, name, _, bind⟩ := (law_ok (P := P) (w := w) (base := base) (ns := ns) B).ex
    have e : f' = f := by
      rw [hfa] at name
      cases name
      rfl
    subst e
    exact ⟨fd, ok, fun s u inK => bind s [u] inK rfl⟩
end Dd
set_option maxHeartbeats 0
open PySem PySem.W PySem.Calls PyProof.Rows
theorem PySem.Challenge.cw_deedrow_k36_whole_trees_holds : PySem.Challenge.rw_deedrow_k36_whole_trees.Holds := by
  w_on; o_law
  refine HandSHeadRun.head_any (r := OpenLaw.row PySem.Challenge.rw_deedrow_k36_whole_trees) (q := view (OpenLaw.row PySem.Challenge.rw_deedrow_k36_whole_trees).prog [48]) (H := Dd.hk) (ob := Dd.ob) (M := 3000) (loose := Dd.loose) (d := HandSHeadRun.topDef (OpenLaw.row PySem.Challenge.rw_deedrow_k36_whole_trees).prog 48) (kwd := []) Dd.ob_eq
    (by kernel_rfl) (fun s => by kernel_rfl) Dd.run_top (by kernel_rfl) (by kernel_rfl) (by kernel_rfl) (by rfl) (by first | assumption | decide +kernel) (by decide +kernel) ⟨rfl, rfl, rfl, rfl, rfl, by decide +kernel⟩ ?hw ?hc
  case hw => w_witness2
  case hc =>
    refine Dd.walk_ofG (l := PySem.Challenge.rw_deedrow_k36_whole_trees) (n := 63) (k := 41) (x := "_law_script") rfl (by decide) (by kernel_rfl) ⟨rfl, by decide, by decide⟩ ?F
    intro w mg fa h Y G hmg0
    obtain ⟨K, KX, c⟩ := Y
    have hmg : mg ("law" : PySem.Str) = some (.ref fa) := by
      have e : (HandSHeadRun.topDef (OpenLaw.row PySem.Challenge.rw_deedrow_k36_whole_trees).prog 48).name = ("law" : PySem.Str) := by kernel_rfl
      rw [← e]
      exact hmg0
    exact ⟨K, KX, Dd.facts KX G hmg c⟩
