import PyProof.Rows.All
import Wide.All
import OpenK.AllK
import Wide.FinOn
import HandS.ForMost
import HandS.IsInst
import HandS.Deep
import HandS.Wide
import HandS.Flow
import HandS.StrMore
import HandS.Lambda
import PySem.Challenge.RW_ibidem_k07_whole_entries_set
import KE.KStateDown
import KE.KExcSuper
import HandS.More
import HandS.WordsExc
import HandS.Defaults
import HandS.Head0
import HandS.Head1
import HandS.Head2
import HandS.HeadEnd
import HandS.HeadHook1
import HandS.HeadHook2
import HandS.HeadHook4
import HandS.HeadWalk
import HandS.Strs
import HandS.Style
import PyProof.ListStr
import HandS.DictComp
import HandS.TupLen
import HandS.WordsDict
import KE.KeyNested
import KE.KDictPairs
import KE.SortKeyHeap
import PyProof.TupleOfSeq
import HandS.Iter
import HandS.SortKw
import KE.LtData
import KE.DataCmp
import HandS.ExcInit
import HandS.TryMany
import HandS.ExcIs
import HandS.ExcField
import PyProof.Rows.StrCase
import KE.SortData
import HandS.RaiseMore
import KE.DatumOrd
import KE.DataEq
set_option Elab.async false
set_option linter.all false
set_option autoImplicit false
set_option maxRecDepth 100000
set_option maxHeartbeats 4000000
/-! Ib0: the data layer's core: immutable data D, contents and temporaries U, what stands in the slots, the lifts. -/
namespace Ib
open PySem PySem.Spec PyProof.Rows L2

abbrev St := L2.St
/-- a text's codes -/
abbrev Cs := List Nat
abbrev S (l : Cs) : Str := ⟨l.toArray⟩
theorem S_tl (l : Cs) : (S l).cps.toList = l := by simp
theorem S_len (l : Cs) : (S l).length = l.length := by simp [Str.length]
theorem S_inj {a b : Cs} (h : S a = S b) : a = b := by
  have := congrArg (fun z : Str => z.cps.toList) h
  simpa using this
theorem S_of (x : Str) : S x.cps.toList = x := by
  cases x
  simp
theorem S_app (a b : Cs) : S a ++ S b = S (a ++ b) := by
  show Str.append _ _ = _
  simp [Str.append]

/-- immutable data -/
inductive D where
  | non | bl (b : Bool) | int (i : Int) | str (x : Cs) | tup (xs : List D)

mutual
def D.pd : D → PyData
  | .non => .none
  | .bl b => .bool b
  | .int i => .int i
  | .str x => .str (S x)
  | .tup xs => .tuple (D.pds xs)
def D.pds : List D → List PyData
  | [] => []
  | x :: xs => D.pd x :: D.pds xs
end
theorem pds_map : ∀ xs : List D, D.pds xs = xs.map D.pd
  | [] => by simp [D.pds]
  | x :: xs => by simp [D.pds, pds_map xs]

/-- no dict, no slots -/
def Pl (o : Obj) : Prop := o.dict = none ∧ o.slots = #[]
/-- a tuple of ours: its object is known to have no dict -/
def TupAt (K : PySem.W.Frag) (H : Hp) (a : Addr) (xs : List V) : Prop :=
  (∃ o, H a = some (.frz o (.tup xs)) ∧ Pl o) ∨
    ∃ (o : Obj) (its : Array Value) (n : Nat), K.lookup a = some o ∧ o.cls = .type "tuple" ∧ o.data = .seq its n ∧ its.size ≤ sizeLine ∧ Vals xs its.toList ∧ Pl o
theorem TupAt.sq {K : PySem.W.Frag} {H : Hp} {a : Addr} {xs : List V} (h : TupAt K H a xs) : SqT K H a xs := by
  rcases h with ⟨o, h, _⟩ | ⟨o, its, n, h1, h2, h3, h4, h5, _⟩
  · exact .inl (.inr ⟨o, h⟩)
  · exact .inr ⟨o, its, n, h1, h2, h3, h4, h5⟩

mutual
inductive Is (K : PySem.W.Frag) (H : Hp) : V → D → Prop
  | non : Is K H .non .non
  | bl (b : Bool) : Is K H (.bl b) (.bl b)
  | int (i : Int) : Is K H (.int i) (.int i)
  | str (x : Cs) : Is K H (.str (S x)) (.str x)
  | tup {a : Addr} {xs : List V} {ds : List D} : TupAt K H a xs → Iss K H xs ds → Is K H (.ref a) (.tup ds)
inductive Iss (K : PySem.W.Frag) (H : Hp) : List V → List D → Prop
  | nil : Iss K H [] []
  | cons {v : V} {vs : List V} {d : D} {ds : List D} : Is K H v d → Iss K H vs ds → Iss K H (v :: vs) (d :: ds)
end
section
variable {K : PySem.W.Frag} {H H' : Hp}
mutual
theorem Is.dp : ∀ (d : D) {v : V}, Is K H v d → Dp K H v d.pd
  | .non, _, h => by cases h; exact .non
  | .bl b, _, h => by cases h; exact .bl b
  | .int i, _, h => by cases h; exact .int i
  | .str x, _, h => by cases h; exact .str (S x)
  | .tup ds, _, h => by
    cases h with
    | tup hs ha => exact .tup hs.sq (Iss.dp ds ha)
theorem Iss.dp : ∀ (ds : List D) {vs : List V}, Iss K H vs ds → DpAll K H vs (D.pds ds)
  | [], _, h => by cases h; exact .nil
  | d :: ds, _, h => by
    cases h with
    | cons h1 h2 => exact .cons (Is.dp d h1) (Iss.dp ds h2)
end
mutual
theorem Is.mono (k : ∀ a xs, TupAt K H a xs → TupAt K H' a xs) : ∀ (d : D) {v : V}, Is K H v d → Is K H' v d
  | .non, _, h => by cases h; exact .non
  | .bl b, _, h => by cases h; exact .bl b
  | .int i, _, h => by cases h; exact .int i
  | .str x, _, h => by cases h; exact .str x
  | .tup ds, _, h => by
    cases h with
    | tup hs ha => exact .tup (k _ _ hs) (Iss.mono k ds ha)
theorem Iss.mono (k : ∀ a xs, TupAt K H a xs → TupAt K H' a xs) : ∀ (ds : List D) {vs : List V}, Iss K H vs ds → Iss K H' vs ds
  | [], _, h => by cases h; exact .nil
  | d :: ds, _, h => by
    cases h with
    | cons h1 h2 => exact .cons (Is.mono k d h1) (Iss.mono k ds h2)
end
theorem Iss.length : ∀ {vs : List V} {ds : List D}, Iss K H vs ds → vs.length = ds.length
  | _, _, .nil => rfl
  | _, _, .cons _ t => by simp [Iss.length t]
theorem Iss.get : ∀ {vs : List V} {ds : List D} {i : Nat} {d : D}, Iss K H vs ds → ds[i]? = some d → ∃ v, vs[i]? = some v ∧ Is K H v d
  | _, _, _, _, .nil, e => by simp at e
  | _, _, 0, _, .cons r _, e => by simp at e; subst e; exact ⟨_, rfl, r⟩
  | _, _, i + 1, d, .cons _ t, e => by
    obtain ⟨v, h1, h2⟩ := Iss.get (i := i) (d := d) t (by simpa using e)
    exact ⟨v, by simpa using h1, h2⟩
theorem Iss.getV : ∀ {vs : List V} {ds : List D} {i : Nat} {v : V}, Iss K H vs ds → vs[i]? = some v → ∃ d, ds[i]? = some d ∧ Is K H v d
  | _, _, _, _, .nil, e => by simp at e
  | _, _, 0, _, .cons r _, e => by simp at e; subst e; exact ⟨_, rfl, r⟩
  | _, _, i + 1, v, .cons _ t, e => by
    obtain ⟨d, h1, h2⟩ := Iss.getV (i := i) (v := v) t (by simpa using e)
    exact ⟨d, by simpa using h1, h2⟩
theorem Iss.append : ∀ {vs us : List V} {ds es : List D}, Iss K H vs ds → Iss K H us es → Iss K H (vs ++ us) (ds ++ es)
  | _, _, _, _, .nil, h => h
  | _, _, _, _, .cons r t, h => .cons r (Iss.append t h)
theorem Iss.take : ∀ {vs : List V} {ds : List D} (n : Nat), Iss K H vs ds → Iss K H (vs.take n) (ds.take n)
  | _, _, 0, _ => .nil
  | _, _, _ + 1, .nil => .nil
  | _, _, n + 1, .cons r t => .cons r (Iss.take n t)
theorem Iss.drop : ∀ {vs : List V} {ds : List D} (n : Nat), Iss K H vs ds → Iss K H (vs.drop n) (ds.drop n)
  | _, _, 0, h => h
  | _, _, _ + 1, .nil => .nil
  | _, _, n + 1, .cons _ t => Iss.drop n t
theorem Iss.set {v : V} {d : D} (r : Is K H v d) : ∀ {vs : List V} {ds : List D} (n : Nat), Iss K H vs ds → Iss K H (vs.set n v) (ds.set n d)
  | _, _, _, .nil => .nil
  | _, _, 0, .cons _ t => .cons r t
  | _, _, n + 1, .cons q t => .cons q (Iss.set r n t)
theorem Iss.eraseIdx : ∀ {vs : List V} {ds : List D} (n : Nat), Iss K H vs ds → Iss K H (vs.eraseIdx n) (ds.eraseIdx n)
  | _, _, _, .nil => .nil
  | _, _, 0, .cons _ t => t
  | _, _, n + 1, .cons q t => .cons q (Iss.eraseIdx n t)
theorem Iss.reverse : ∀ {vs : List V} {ds : List D}, Iss K H vs ds → Iss K H vs.reverse ds.reverse
  | _, _, .nil => .nil
  | _, _, .cons q t => by
    rw [List.reverse_cons, List.reverse_cons]
    exact (Iss.reverse t).append (.cons q .nil)
end

/-- contents of slots and temporaries: data, an own list, the law's reader (its cells at ls; n draws are still free), a list or reader borrowed from a slot -/
inductive U where
  | d (x : D) | lst (xs : List D) | rdr (ls : Addr) (n : Nat) | bor (i : Nat)
abbrev DEnv := List (Option U)

structure RdrAt (H : Hp) (a ls : Addr) (n : Nat) : Prop where
  ne : a ≠ ls
  ex : ∃ (ns : List Int) (at_ num left turn odd seed : Int), H ls = some (.lst (ns.map V.int)) ∧ H a = some (.lst [.ref ls, .int at_, .int num, .int left, .int turn, .int odd, .int seed]) ∧
    0 ≤ at_ ∧ 0 ≤ num ∧ (0 ≤ left ∧ left ≤ 60) ∧ (0 ≤ turn ∧ turn + n ≤ 1000000) ∧ (odd = 0 ∨ odd = 1) ∧ (0 ≤ seed ∧ seed < 2147483587)

def VW (K : PySem.W.Frag) (H : Hp) : V → U → Prop
  | v, .d x => Is K H v x
  | v, .lst xs => ∃ a vs, v = .ref a ∧ H a = some (.lst vs) ∧ Iss K H vs xs
  | v, .rdr ls n => ∃ a, v = .ref a ∧ RdrAt H a ls n
  | _, .bor _ => False
/-- the addresses that a content owns -/
def fp : V → U → Addr → Prop
  | .ref a, .lst _, b => b = a
  | .ref a, .rdr ls _, b => b = a ∨ b = ls
  | _, _, _ => False
def M (σ : St) (δ : DEnv) (b : Addr) : Prop := ∃ (i : Nat) (v : V) (w : U), σ[i]? = some (some v) ∧ δ[i]? = some (some w) ∧ fp v w b
/-- the tables of code objects that are watched, each with the name that its codes bear -/
class Tabl where
  T : List (Addr × Str)
variable [Tabl]
/-- the watched tables stand -/
def Tbs (H : Hp) : Prop := ∀ p ∈ Tabl.T, LamX.TabS H p.1 p.2
structure EnvOk (K : PySem.W.Frag) (σ : St) (H : Hp) (δ : DEnv) : Prop where
  tab : Tbs H
  len : σ.length = δ.length
  has : ∀ (i : Nat) (w : U), δ[i]? = some (some w) → ∃ v, σ[i]? = some (some v) ∧ VW K H v w
  sep : ∀ (i j : Nat) (v : V) (w : U) (v' : V) (w' : U) (b : Addr), i ≠ j → σ[i]? = some (some v) → δ[i]? = some (some w) → σ[j]? = some (some v') → δ[j]? = some (some w') → fp v w b → ¬ fp v' w' b
/-- the shape of a content -/
def er : U → U
  | .d x => .d x
  | .lst _ => .lst []
  | .rdr ls _ => .rdr ls 0
  | .bor i => .bor i
theorem fp_er (v : V) (w : U) (b : Addr) : fp v (er w) b = fp v w b := by
  cases v <;> cases w <;> rfl
def Sh (δ δ' : DEnv) : Prop := δ.map (Option.map er) = δ'.map (Option.map er)
theorem Sh.refl (δ : DEnv) : Sh δ δ := rfl
theorem Sh.trans {a b c : DEnv} (h : Sh a b) (k : Sh b c) : Sh a c := Eq.trans h k
theorem Sh.symm {a b : DEnv} (h : Sh a b) : Sh b a := Eq.symm h
theorem Sh.at' {a b : DEnv} (h : Sh a b) {i : Nat} {w : U} (e : a[i]? = some (some w)) : ∃ w', b[i]? = some (some w') ∧ er w' = er w := by
  have h1 : (a.map (Option.map er))[i]? = (b.map (Option.map er))[i]? := by rw [show a.map (Option.map er) = b.map (Option.map er) from h]
  rw [List.getElem?_map, List.getElem?_map, e] at h1
  cases q : b[i]? with
  | none => rw [q] at h1; cases h1
  | some o =>
    rw [q] at h1
    cases o with
    | none => cases h1
    | some w' =>
      refine ⟨w', rfl, ?_⟩
      have h2 : some (some (er w)) = some (some (er w')) := h1
      injection h2 with h3
      injection h3 with h4
      exact h4.symm
theorem Sh.none_at {a b : DEnv} (h : Sh a b) {i : Nat} (e : a[i]? = some none) : b[i]? = some none := by
  have h1 : (a.map (Option.map er))[i]? = (b.map (Option.map er))[i]? := by rw [show a.map (Option.map er) = b.map (Option.map er) from h]
  rw [List.getElem?_map, List.getElem?_map, e] at h1
  cases q : b[i]? with
  | none => rw [q] at h1; cases h1
  | some o =>
    rw [q] at h1
    cases o with
    | none => rfl
    | some w' => cases h1
theorem Sh.len {a b : DEnv} (h : Sh a b) : a.length = b.length := by
  have := congrArg List.length (show a.map (Option.map er) = b.map (Option.map er) from h)
  simpa using this
theorem Sh.M {a b : DEnv} (h : Sh a b) {σ : St} {x : Addr} (m : M σ a x) : Ib.M σ b x := by
  obtain ⟨i, v, w, e1, e2, e3⟩ := m
  obtain ⟨w', e4, e5⟩ := h.at' e2
  exact ⟨i, v, w', e1, e4, by rw [← fp_er, e5, fp_er]; exact e3⟩
theorem Sh.M_iff {a b : DEnv} (h : Sh a b) {σ : St} {x : Addr} : Ib.M σ a x ↔ Ib.M σ b x := ⟨h.M, h.symm.M⟩
theorem Sh.set {δ : DEnv} {i : Nat} {w w' : U} (e : δ[i]? = some (some w)) (h : er w = er w') : Sh δ (δ.set i (some w')) := by
  unfold Sh
  rw [List.map_set]
  have : Option.map er (some w') = (δ.map (Option.map er))[i]?.getD none := by
    rw [List.getElem?_map, e]
    simp [h]
  rw [this]
  apply List.ext_getElem?
  intro j
  by_cases hj : j = i
  · subst hj
    have hl : j < (δ.map (Option.map er)).length := by
      have := (List.getElem?_eq_some_iff.mp e).1
      simpa using this
    rw [List.getElem?_set_self hl, List.getElem?_eq_getElem hl]
    rfl
  · rw [List.getElem?_set_ne (Ne.symm hj)]

/-- what stands but for m and the tables of code objects stands; what is tracked is tracked; the tables stay such -/
structure Stp (m : Addr → Prop) (H H' : Hp) : Prop where
  kp : ∀ b o, H b = some o → ¬ m b → (∀ ps, o ≠ .tbl ps) → H' b = some o
  dom : ∀ b, H' b = none → H b = none
  tab : Tbs H → Tbs H'
theorem Stp.keep {m : Addr → Prop} {H H' : Hp} (s : Stp m H H') (b : Addr) (o : HO) (e : H b = some o) (n : ¬ m b) (h : ∀ ps, o ≠ .tbl ps := by exact fun _ z => nomatch z) : H' b = some o := s.kp b o e n h
/-- only lists change -/
theorem Stp.of {m : Addr → Prop} {H H' : Hp} (k : ∀ b o, H b = some o → ¬ m b → H' b = some o) (d : ∀ b, H' b = none → H b = none) (hm : ∀ b, m b → ∃ xs, H b = some (.lst xs)) : Stp m H H' :=
  ⟨fun b o e n _ => k b o e n, d, fun t p hp => by
    obtain ⟨ps, h1, h2, h3⟩ := t p hp
    refine ⟨ps, k _ _ h1 fun z => ?_, h2, fun pos cv hc => ?_⟩
    · obtain ⟨xs, e⟩ := hm _ z
      rw [h1] at e
      cases e
    · obtain ⟨c, e1, e2⟩ := h3 pos cv hc
      refine ⟨c, e1, k _ _ e2 fun z => ?_⟩
      obtain ⟨xs, e⟩ := hm _ z
      rw [e2] at e
      unfold LamX.CodeO at e
      cases e⟩
theorem Stp.refl (m : Addr → Prop) (H : Hp) : Stp m H H := ⟨fun _ _ h _ _ => h, fun _ h => h, fun h => h⟩
theorem Stp.trans {m m' : Addr → Prop} {H H1 H2 : Hp} (a : Stp m H H1) (b : Stp m' H1 H2) (hm : ∀ x, m' x → m x ∨ H x = none) : Stp m H H2 :=
  ⟨fun x o h n t => b.kp x o (a.kp x o h n t) (fun z => (hm x z).elim n fun q => (by rw [h] at q; cases q)) t, fun x h => a.dom x (b.dom x h), fun h => b.tab (a.tab h)⟩
theorem Stp.same {m : Addr → Prop} {H H' : Hp} (h : Same H H') : Stp m H H' := ⟨fun b o e _ _ => h b o e, fun b e => h.free e, fun t p hp => (t p hp).ext h⟩
theorem Stp.new {m : Addr → Prop} {H : Hp} {p : Addr} {o : HO} (h : H p = none) : Stp m H (upd H p o) :=
  Stp.same fun b u e => by rw [upd_ne (ne_of_none e h)]; exact e
theorem Stp.weak {m m' : Addr → Prop} {H H' : Hp} (a : Stp m H H') (h : ∀ x, m x → m' x) : Stp m' H H' := ⟨fun b o e n t => a.kp b o e (fun z => n (h b z)) t, a.dom, a.tab⟩
/-- a list at D is changed -/
theorem Stp.write {H : Hp} {D : Addr} {us vs : List V} (e : H D = some (.lst us)) : Stp (fun b => b = D) H (upd H D (.lst vs)) :=
  .of (fun b o e n => by rw [upd_ne n]; exact e) (fun b e => by
    by_cases hb : b = D
    · subst hb; rw [upd_same] at e; cases e
    · rw [upd_ne hb] at e; exact e) fun b z => by subst z; exact ⟨_, e⟩

section
variable {K : PySem.W.Frag} {σ : St} {H H' : Hp} {δ δ' : DEnv}
theorem fp_lst {v : V} {w : U} {b : Addr} (h : VW K H v w) (f : fp v w b) : ∃ xs, H b = some (.lst xs) := by
  cases w with
  | d x => cases v <;> exact f.elim
  | lst xs =>
    obtain ⟨a, vs, rfl, e, _⟩ := h
    have f : b = a := f
    subst f
    exact ⟨_, e⟩
  | rdr ls n =>
    obtain ⟨a, rfl, _, ns, x1, x2, x3, x4, x5, x6, e1, e2, _⟩ := h
    rcases (show b = a ∨ b = ls from f) with rfl | rfl
    · exact ⟨_, e2⟩
    · exact ⟨_, e1⟩
  | bor i => exact h.elim
theorem EnvOk.own (E : EnvOk K σ H δ) {b : Addr} (m : M σ δ b) : ∃ xs, H b = some (.lst xs) := by
  obtain ⟨i, v, w, e1, e2, f⟩ := m
  obtain ⟨v', e3, h⟩ := E.has i w e2
  rw [e1] at e3
  cases e3
  exact fp_lst h f
theorem EnvOk.dom (E : EnvOk K σ H δ) {b : Addr} (m : M σ δ b) : H b ≠ none := by
  obtain ⟨xs, e⟩ := E.own m
  rw [e]
  exact fun z => nomatch z
/-- tuples stay -/
theorem Stp.tups {m : Addr → Prop} (s : Stp m H H') (hm : ∀ b, m b → ∃ xs, H b = some (.lst xs)) {a : Addr} {xs : List V} (h : TupAt K H a xs) : TupAt K H' a xs := by
  rcases h with ⟨o, h, hd⟩ | h
  · refine .inl ⟨o, s.keep _ _ h fun z => ?_, hd⟩
    obtain ⟨ys, e⟩ := hm _ z
    rw [h] at e; cases e
  · exact .inr h
theorem Stp.is {m : Addr → Prop} (s : Stp m H H') (hm : ∀ b, m b → ∃ xs, H b = some (.lst xs)) {v : V} {d : D} (h : Is K H v d) : Is K H' v d := Is.mono (fun _ _ q => s.tups hm q) d h
theorem Stp.iss {m : Addr → Prop} (s : Stp m H H') (hm : ∀ b, m b → ∃ xs, H b = some (.lst xs)) {v : List V} {d : List D} (h : Iss K H v d) : Iss K H' v d := Iss.mono (fun _ _ q => s.tups hm q) d h
end

/-- a temporary's value: H0 the heap from which on it is new -/
def VT (K : PySem.W.Frag) (σ : St) (H0 H : Hp) (δ : DEnv) (v : V) : U → Prop
  | .d x => Is K H v x
  | .bor i => σ[i]? = some (some v) ∧ ∃ c, δ[i]? = some (some c) ∧ ∀ x, c ≠ .d x
  | .lst xs => VW K H v (.lst xs) ∧ ∀ b, fp v (.lst xs) b → H0 b = none
  | .rdr ls n => VW K H v (.rdr ls n) ∧ ∀ b, fp v (.rdr ls n) b → H0 b = none
/-- what a step of evaluation leaves -/
structure AR (K : PySem.W.Frag) (σ : St) (δ : DEnv) (H : Hp) (δ' : DEnv) (H' : Hp) : Prop where
  sh : Sh δ δ'
  st : Stp (M σ δ) H H'
  env : EnvOk K σ H' δ'

section
variable {K : PySem.W.Frag} {σ : St} {H H' H1 H2 : Hp} {δ δ' δ1 δ2 : DEnv}
theorem AR.refl (E : EnvOk K σ H δ) : AR K σ δ H δ H := ⟨.refl _, .refl _ _, E⟩
theorem AR.trans (a : AR K σ δ H δ1 H1) (b : AR K σ δ1 H1 δ2 H2) : AR K σ δ H δ2 H2 :=
  ⟨a.sh.trans b.sh, a.st.trans b.st fun _ m => .inl (a.sh.symm.M m), b.env⟩
/-- the slots' contents stand where only other objects were changed -/
theorem EnvOk.keep {m : Addr → Prop} (E : EnvOk K σ H δ) (s : Stp m H H') (hm : ∀ b, m b → ∃ xs, H b = some (.lst xs)) (hn : ∀ b, m b → ¬ M σ δ b) : EnvOk K σ H' δ := by
  refine ⟨s.tab E.tab, E.len, fun i w e => ?_, E.sep⟩
  obtain ⟨v, e1, h⟩ := E.has i w e
  refine ⟨v, e1, ?_⟩
  have nf : ∀ b, fp v w b → ¬ m b := fun b f z => hn b z ⟨i, v, w, e1, e, f⟩
  cases w with
  | d x => exact s.is hm h
  | lst xs =>
    obtain ⟨a, vs, rfl, ea, hi⟩ := h
    exact ⟨a, vs, rfl, s.keep _ _ ea (nf a rfl), s.iss hm hi⟩
  | rdr ls n =>
    obtain ⟨a, rfl, ne, ns, x1, x2, x3, x4, x5, x6, e1, e2, r⟩ := h
    exact ⟨a, rfl, ne, ns, x1, x2, x3, x4, x5, x6, s.keep _ _ e1 (nf ls (.inr rfl)), s.keep _ _ e2 (nf a (.inl rfl)), r⟩
  | bor i => exact h.elim
theorem EnvOk.new (E : EnvOk K σ H δ) {p : Addr} {o : HO} (h : H p = none) : EnvOk K σ (upd H p o) δ :=
  E.keep (m := fun _ => False) (Stp.new h) (fun _ z => z.elim) (fun _ z => z.elim)
theorem EnvOk.same (E : EnvOk K σ H δ) (h : Same H H') : EnvOk K σ H' δ :=
  E.keep (m := fun _ => False) (Stp.same h) (fun _ z => z.elim) (fun _ z => z.elim)
theorem AR.new (E : EnvOk K σ H δ) {p : Addr} {o : HO} (h : H p = none) : AR K σ δ H δ (upd H p o) := ⟨.refl _, Stp.new h, E.new h⟩
theorem AR.same (E : EnvOk K σ H δ) (h : Same H H') : AR K σ δ H δ H' := ⟨.refl _, Stp.same h, E.same h⟩
theorem AR.stp (E : EnvOk K σ H δ) (h : Stp (fun _ => False) H H') : AR K σ δ H δ H' := ⟨.refl _, h.weak fun _ z => z.elim, E.keep h (fun _ z => z.elim) fun _ z => z.elim⟩
/-- a temporary of before a step behind it -/
theorem VT.carry {H0 : Hp} {v : V} {w : U} (h : VT K σ H0 H1 δ1 v w) (E : EnvOk K σ H1 δ1) (a : AR K σ δ1 H1 δ2 H2) (hd : ∀ b, M σ δ1 b → H0 b ≠ none) : VT K σ H0 H2 δ2 v w := by
  have tm : ∀ b, M σ δ1 b → ∃ xs, H1 b = some (.lst xs) := fun b m => E.own m
  cases w with
  | d x => exact a.st.is tm h
  | bor i =>
    obtain ⟨e, c, ec, nc⟩ := h
    obtain ⟨c', e1, e2⟩ := a.sh.at' ec
    refine ⟨e, c', e1, fun x z => ?_⟩
    subst z
    cases c with
    | d y => exact nc y rfl
    | _ => cases e2
  | lst xs =>
    obtain ⟨⟨p, vs, rfl, ea, hi⟩, hf⟩ := h
    exact ⟨⟨p, vs, rfl, a.st.keep _ _ ea (fun m => hd p m (hf p rfl)), a.st.iss tm hi⟩, hf⟩
  | rdr ls n =>
    obtain ⟨⟨p, rfl, ne, ns, x1, x2, x3, x4, x5, x6, e1, e2, r⟩, hf⟩ := h
    exact ⟨⟨p, rfl, ne, ns, x1, x2, x3, x4, x5, x6, a.st.keep _ _ e1 (fun m => hd ls m (hf ls (.inr rfl))), a.st.keep _ _ e2 (fun m => hd p m (hf p (.inl rfl))), r⟩, hf⟩
/-- a later heap's newness is an earlier one's -/
theorem VT.back {H0 : Hp} {v : V} {w : U} (h : VT K σ H1 H2 δ2 v w) (b : ∀ x, H1 x = none → H0 x = none) : VT K σ H0 H2 δ2 v w := by
  cases w with
  | d x => exact h
  | bor i => exact h
  | lst xs => exact ⟨h.1, fun x f => b x (h.2 x f)⟩
  | rdr ls n => exact ⟨h.1, fun x f => b x (h.2 x f)⟩
/-- a slot's own list is changed -/
theorem EnvOk.write (E : EnvOk K σ H δ) {i : Nat} {a : Addr} {xs ys : List D} {us : List V} (e1 : σ[i]? = some (some (.ref a))) (e2 : δ[i]? = some (some (.lst xs))) (hi : Iss K H us ys) :
    AR K σ δ H (δ.set i (some (.lst ys))) (upd H a (.lst us)) := by
  have ma : M σ δ a := ⟨i, _, _, e1, e2, rfl⟩
  obtain ⟨zs, ea⟩ := E.own ma
  have st : Stp (fun b => b = a) H (upd H a (.lst us)) := Stp.write ea
  have hm : ∀ b, b = a → ∃ xs, H b = some (.lst xs) := fun b z => by subst z; exact ⟨_, ea⟩
  have hl : i < δ.length := (List.getElem?_eq_some_iff.mp e2).1
  have sh : Sh δ (δ.set i (some (.lst ys))) := Sh.set e2 rfl
  refine ⟨sh, st.weak fun b z => by subst z; exact ma, ⟨st.tab E.tab, by rw [List.length_set]; exact E.len, fun j w e => ?_, fun j k v w v' w' b hjk q1 q2 q3 q4 f g => ?_⟩⟩
  · by_cases hj : j = i
    · subst hj
      rw [List.getElem?_set_self hl] at e
      cases e
      exact ⟨_, e1, a, us, rfl, upd_same, st.iss hm hi⟩
    · rw [List.getElem?_set_ne (Ne.symm hj)] at e
      obtain ⟨v, q1, h⟩ := E.has j w e
      refine ⟨v, q1, ?_⟩
      have nf : ∀ b, fp v w b → ¬ b = a := fun b f z => by
        subst z
        exact E.sep j i v w _ _ b hj q1 e e1 e2 f rfl
      cases w with
      | d x => exact st.is hm h
      | lst xs =>
        obtain ⟨p, vs, rfl, ep, hi⟩ := h
        exact ⟨p, vs, rfl, st.keep _ _ ep (nf p rfl), st.iss hm hi⟩
      | rdr ls n =>
        obtain ⟨p, rfl, ne, ns, x1, x2, x3, x4, x5, x6, e1, e2, r⟩ := h
        exact ⟨p, rfl, ne, ns, x1, x2, x3, x4, x5, x6, st.keep _ _ e1 (nf ls (.inr rfl)), st.keep _ _ e2 (nf p (.inl rfl)), r⟩
      | bor i => exact h.elim
  · obtain ⟨w1, r1, s1⟩ := sh.symm.at' q2
    obtain ⟨w2, r2, s2⟩ := sh.symm.at' q4
    refine E.sep j k v w1 v' w2 b hjk q1 r1 q3 r2 ?_ ?_
    · rw [← fp_er, s1, fp_er]; exact f
    · rw [← fp_er, s2, fp_er]; exact g
end

/-! ### the lifts -/
abbrev DE := DEnv → (U → DEnv → Prop) → Prop
abbrev DT := DEnv → (Bool → DEnv → Prop) → Prop
abbrev DA := DEnv → (List U → DEnv → Prop) → Prop
def up (K : PySem.W.Frag) (de : DE) : TE := fun σ H Q => ∃ δ R, EnvOk K σ H δ ∧ de δ R ∧ ∀ w δ' v H', R w δ' → AR K σ δ H δ' H' → VT K σ H H' δ' v w → Q v H'
def upT (K : PySem.W.Frag) (dt : DT) : TT := fun σ H Q => ∃ δ R, EnvOk K σ H δ ∧ dt δ R ∧ ∀ b δ' H', R b δ' → AR K σ δ H δ' H' → Q b H'
def upA (K : PySem.W.Frag) (da : DA) : TA := fun σ H Q => ∃ δ R, EnvOk K σ H δ ∧ da δ R ∧ ∀ ws δ' vs H', R ws δ' → AR K σ δ H δ' H' → Paired (VT K σ H H' δ') vs ws → Q vs H'
/-- a reading that is asked less -/
theorem PE.imp {X : Cx} {e : Expr} {t t' : TE} (h : PE X e t) (i : ∀ σ H Q, t' σ H Q → t σ H Q) : PE X e t' := ⟨fun pins s σ H Q I q => h.run pins s σ H Q I (i _ _ _ q)⟩
theorem PT.imp {X : Cx} {e : Expr} {t t' : TT} (h : PT X e t) (i : ∀ σ H Q, t' σ H Q → t σ H Q) : PT X e t' := ⟨fun pins s σ H Q I q => h.run pins s σ H Q I (i _ _ _ q)⟩
theorem PA.imp {X : Cx} {e : List Expr} {t t' : TA} (h : PA X e t) (i : ∀ σ H Q, t' σ H Q → t σ H Q) : PA X e t' := ⟨fun pos pins s σ H Q I q => h.run pos pins s σ H Q I (i _ _ _ q)⟩
theorem PS.imp {X : Cx} {e : Stmt} {t t' : TS} (h : PS X e t) (i : ∀ D σ H, t' D σ H → t D σ H) : PS X e t' := ⟨fun pins s σ H D I q => h.run pins s σ H D I (i _ _ _ q)⟩
theorem PSs.imp {X : Cx} {e : List Stmt} {t t' : TS} (h : PSs X e t) (i : ∀ D σ H, t' D σ H → t D σ H) : PSs X e t' := ⟨fun pins s σ H D I q => h.run pins s σ H D I (i _ _ _ q)⟩
end Ib
set_option Elab.async false
set_option linter.all false
set_option autoImplicit false
set_option maxRecDepth 100000
set_option maxHeartbeats 4000000
/-! IbA: the text's places and constants (printed by gen.py). -/
namespace Ib
open PySem PySem.Spec PyProof.Rows L2
def topS (i : Nat) : Stmt := PySem.Challenge.pw_ibidem_k07_whole_entries_set.main.body.getD i (.Pass ⟨0, 0, 0, 0⟩)
def k_ibidem_errors : Cs := [105, 98, 105, 100, 101, 109, 46, 101, 114, 114, 111, 114, 115]
theorem e_ibidem_errors : (("ibidem.errors" : String) : Str) = S k_ibidem_errors := by decide +kernel
abbrev k_ibidem_books : Cs := [105, 98, 105, 100, 101, 109, 46, 98, 111, 111, 107, 115]
theorem e_ibidem_books : (("ibidem.books" : String) : Str) = S k_ibidem_books := by decide +kernel
def k_ABCDEFGHIJKLMNOPQRST : Cs := [65, 66, 67, 68, 69, 70, 71, 72, 73, 74, 75, 76, 77, 78, 79, 80, 81, 82, 83, 84, 85, 86, 87, 88, 89, 90]
theorem e_ABCDEFGHIJKLMNOPQRST : (("ABCDEFGHIJKLMNOPQRSTUVWXYZ" : String) : Str) = S k_ABCDEFGHIJKLMNOPQRST := by decide +kernel
def k_abcdefghijklmnopqrst : Cs := [97, 98, 99, 100, 101, 102, 103, 104, 105, 106, 107, 108, 109, 110, 111, 112, 113, 114, 115, 116, 117, 118, 119, 120, 121, 122]
theorem e_abcdefghijklmnopqrst : (("abcdefghijklmnopqrstuvwxyz" : String) : Str) = S k_abcdefghijklmnopqrst := by decide +kernel
def k_ibidem_shelving : Cs := [105, 98, 105, 100, 101, 109, 46, 115, 104, 101, 108, 118, 105, 110, 103]
theorem e_ibidem_shelving : (("ibidem.shelving" : String) : Str) = S k_ibidem_shelving := by decide +kernel
def k_ibidem_styles : Cs := [105, 98, 105, 100, 101, 109, 46, 115, 116, 121, 108, 101, 115]
theorem e_ibidem_styles : (("ibidem.styles" : String) : Str) = S k_ibidem_styles := by decide +kernel
def k_ibidem_setting : Cs := [105, 98, 105, 100, 101, 109, 46, 115, 101, 116, 116, 105, 110, 103]
theorem e_ibidem_setting : (("ibidem.setting" : String) : Str) = S k_ibidem_setting := by decide +kernel
def k_law_ibidem_k07_whole : Cs := [108, 97, 119, 95, 105, 98, 105, 100, 101, 109, 95, 107, 48, 55, 95, 119, 104, 111, 108, 101, 95, 101, 110, 116, 114, 105, 101, 115, 95, 115, 101, 116]
theorem e_law_ibidem_k07_whole : (("law_ibidem_k07_whole_entries_set" : String) : Str) = S k_law_ibidem_k07_whole := by decide +kernel
abbrev k_names : Cs := [110, 97, 109, 101, 115]
theorem e_names : (("names" : String) : Str) = S k_names := by decide +kernel
abbrev k_year : Cs := [121, 101, 97, 114]
theorem e_year : (("year" : String) : Str) = S k_year := by decide +kernel
abbrev k_title : Cs := [116, 105, 116, 108, 101]
theorem e_title : (("title" : String) : Str) = S k_title := by decide +kernel
abbrev k_place : Cs := [112, 108, 97, 99, 101]
theorem e_place : (("place" : String) : Str) = S k_place := by decide +kernel
abbrev k_volume : Cs := [118, 111, 108, 117, 109, 101]
theorem e_volume : (("volume" : String) : Str) = S k_volume := by decide +kernel
abbrev k_ahead : Cs := [97, 104, 101, 97, 100]
theorem e_ahead : (("ahead" : String) : Str) = S k_ahead := by decide +kernel
abbrev k_behind : Cs := [98, 101, 104, 105, 110, 100]
theorem e_behind : (("behind" : String) : Str) = S k_behind := by decide +kernel
abbrev k_none : Cs := [110, 111, 110, 101]
theorem e_none : (("none" : String) : Str) = S k_none := by decide +kernel
def k________________01234 : Cs := [32, 33, 34, 35, 36, 38, 39, 40, 41, 42, 43, 44, 45, 46, 47, 48, 49, 50, 51, 52, 53, 54, 55, 56, 57, 58, 59, 60, 61, 62, 63, 64, 65, 66, 67, 68, 69, 70, 71, 72, 73, 74, 75, 76, 77, 78, 79, 80, 81, 82, 83, 84, 85, 86, 87, 88, 89, 90, 91, 92, 93, 94, 95, 96, 97, 98, 99, 100, 101, 102, 103, 104, 105, 106, 107, 108, 109, 110, 111, 112, 113, 114, 115, 116, 117, 118, 119, 120, 121, 122, 123, 124, 125, 126]
theorem e________________01234 : ((" !\"#$&'()*+,-./0123456789:;<=>?@ABCDEFGHIJKLMNOPQRSTUVWXYZ[\\]^_`abcdefghijklmnopqrstuvwxyz{|}~" : String) : Str) = S k________________01234 := by decide +kernel
abbrev k_x32_44_59_58 : Cs := [32, 44, 59, 58, 46, 40, 41, 38, 45]
theorem e_x32_44_59_58 : ((" ,;:.()&-" : String) : Str) = S k_x32_44_59_58 := by decide +kernel
abbrev k_empty : Cs := []
theorem e_empty : (("" : String) : Str) = S k_empty := by decide +kernel
abbrev k_x32 : Cs := [32]
theorem e_x32 : ((" " : String) : Str) = S k_x32 := by decide +kernel
abbrev k_mark : Cs := [109, 97, 114, 107]
theorem e_mark : (("mark" : String) : Str) = S k_mark := by decide +kernel
abbrev k_sign : Cs := [115, 105, 103, 110]
theorem e_sign : (("sign" : String) : Str) = S k_sign := by decide +kernel
abbrev k_family : Cs := [102, 97, 109, 105, 108, 121]
theorem e_family : (("family" : String) : Str) = S k_family := by decide +kernel
abbrev k_given : Cs := [103, 105, 118, 101, 110]
theorem e_given : (("given" : String) : Str) = S k_given := by decide +kernel
abbrev k_dotted : Cs := [100, 111, 116, 116, 101, 100]
theorem e_dotted : (("dotted" : String) : Str) = S k_dotted := by decide +kernel
abbrev k_if : Cs := [105, 102]
theorem e_if : (("if" : String) : Str) = S k_if := by decide +kernel
abbrev k_not_a_book : Cs := [110, 111, 116, 32, 97, 32, 98, 111, 111, 107]
theorem e_not_a_book : (("not a book" : String) : Str) = S k_not_a_book := by decide +kernel
def k_not_a_list_of_books : Cs := [110, 111, 116, 32, 97, 32, 108, 105, 115, 116, 32, 111, 102, 32, 98, 111, 111, 107, 115]
theorem e_not_a_list_of_books : (("not a list of books" : String) : Str) = S k_not_a_list_of_books := by decide +kernel
abbrev k_not_a_style : Cs := [110, 111, 116, 32, 97, 32, 115, 116, 121, 108, 101]
theorem e_not_a_style : (("not a style" : String) : Str) = S k_not_a_style := by decide +kernel
def k_not_told_letters : Cs := [110, 111, 116, 32, 116, 111, 108, 100, 32, 108, 101, 116, 116, 101, 114, 115]
theorem e_not_told_letters : (("not told letters" : String) : Str) = S k_not_told_letters := by decide +kernel
abbrev k_x10 : Cs := [10]
theorem e_x10 : (("\n" : String) : Str) = S k_x10 := by decide +kernel
abbrev k_style : Cs := [115, 116, 121, 108, 101]
theorem e_style : (("style" : String) : Str) = S k_style := by decide +kernel
abbrev k_book : Cs := [98, 111, 111, 107]
theorem e_book : (("book" : String) : Str) = S k_book := by decide +kernel
abbrev k_list : Cs := [108, 105, 115, 116]
theorem e_list : (("list" : String) : Str) = S k_list := by decide +kernel
abbrev k_letters : Cs := [108, 101, 116, 116, 101, 114, 115]
theorem e_letters : (("letters" : String) : Str) = S k_letters := by decide +kernel
abbrev k_x126 : Cs := [126]
theorem e_x126 : (("~" : String) : Str) = S k_x126 := by decide +kernel
abbrev k_x46 : Cs := [46]
theorem e_x46 : (("." : String) : Str) = S k_x46 := by decide +kernel
abbrev k_abc : Cs := [97, 98, 99]
theorem e_abc : (("abc" : String) : Str) = S k_abc := by decide +kernel
abbrev k__a : Cs := [32, 97]
theorem e__a : ((" a" : String) : Str) = S k__a := by decide +kernel
def D_SHAPES : D := .tup [(.tup [(.int 1), (.int 0), (.int 0)]), (.tup [(.int 1), (.int 0), (.int 1)]), (.tup [(.int 1), (.int 1), (.int 0)]), (.tup [(.int 1), (.int 1), (.int 1)]), (.tup [(.int 2), (.int 0), (.int 0)]), (.tup [(.int 2), (.int 0), (.int 1)]), (.tup [(.int 2), (.int 1), (.int 0)]), (.tup [(.int 2), (.int 1), (.int 1)]), (.tup [(.int 3), (.int 0), (.int 0)]), (.tup [(.int 3), (.int 0), (.int 1)]), (.tup [(.int 3), (.int 1), (.int 0)]), (.tup [(.int 3), (.int 1), (.int 1)])]
def D_FIELDS : D := .tup [(.str k_names), (.str k_year), (.str k_title), (.str k_place), (.str k_volume)]
def D_WAYS : D := .tup [(.str k_ahead), (.str k_behind), (.str k_none)]
abbrev s_is_integer : Stmt := topS 14
abbrev N_is_integer : List Str := ["value"]
theorem sc_is_integer : FnScope N_is_integer ["value"] (defScope s_is_integer) := ⟨rfl, rfl, rfl, by decide +kernel, rfl, by decide +kernel, by decide +kernel⟩
abbrev s_are_all_of : Stmt := topS 15
abbrev N_are_all_of : List Str := ["text", "signs", "sign"]
theorem sc_are_all_of : FnScope N_are_all_of ["text", "signs"] (defScope s_are_all_of) := ⟨rfl, rfl, rfl, by decide +kernel, rfl, by decide +kernel, by decide +kernel⟩
abbrev s_is_family : Stmt := topS 16
abbrev N_is_family : List Str := ["value"]
theorem sc_is_family : FnScope N_is_family ["value"] (defScope s_is_family) := ⟨rfl, rfl, rfl, by decide +kernel, rfl, by decide +kernel, by decide +kernel⟩
abbrev s_is_given : Stmt := topS 17
abbrev N_is_given : List Str := ["value"]
theorem sc_is_given : FnScope N_is_given ["value"] (defScope s_is_given) := ⟨rfl, rfl, rfl, by decide +kernel, rfl, by decide +kernel, by decide +kernel⟩
abbrev s_is_title : Stmt := topS 18
abbrev N_is_title : List Str := ["value", "words", "word"]
theorem sc_is_title : FnScope N_is_title ["value"] (defScope s_is_title) := ⟨rfl, rfl, rfl, by decide +kernel, rfl, by decide +kernel, by decide +kernel⟩
abbrev s_is_name : Stmt := topS 19
abbrev N_is_name : List Str := ["value"]
theorem sc_is_name : FnScope N_is_name ["value"] (defScope s_is_name) := ⟨rfl, rfl, rfl, by decide +kernel, rfl, by decide +kernel, by decide +kernel⟩
abbrev s_is_book : Stmt := topS 20
abbrev N_is_book : List Str := ["value", "names", "year", "title", "place", "volume", "one"]
theorem sc_is_book : FnScope N_is_book ["value"] (defScope s_is_book) := ⟨rfl, rfl, rfl, by decide +kernel, rfl, by decide +kernel, by decide +kernel⟩
abbrev s_is_list : Stmt := topS 21
abbrev N_is_list : List Str := ["value", "book"]
theorem sc_is_list : FnScope N_is_list ["value"] (defScope s_is_list) := ⟨rfl, rfl, rfl, by decide +kernel, rfl, by decide +kernel, by decide +kernel⟩
abbrev s_need_book : Stmt := topS 22
abbrev N_need_book : List Str := ["value"]
theorem sc_need_book : FnScope N_need_book ["value"] (defScope s_need_book) := ⟨rfl, rfl, rfl, by decide +kernel, rfl, by decide +kernel, by decide +kernel⟩
abbrev s_need_list : Stmt := topS 23
abbrev N_need_list : List Str := ["value"]
theorem sc_need_list : FnScope N_need_list ["value"] (defScope s_need_list) := ⟨rfl, rfl, rfl, by decide +kernel, rfl, by decide +kernel, by decide +kernel⟩
abbrev s_shape_of : Stmt := topS 24
abbrev N_shape_of : List Str := ["book", "names", "_", "place", "volume"]
theorem sc_shape_of : FnScope N_shape_of ["book"] (defScope s_shape_of) := ⟨rfl, rfl, rfl, by decide +kernel, rfl, by decide +kernel, by decide +kernel⟩
abbrev s_is_letter : Stmt := topS 28
abbrev N_is_letter : List Str := ["value"]
theorem sc_is_letter : FnScope N_is_letter ["value"] (defScope s_is_letter) := ⟨rfl, rfl, rfl, by decide +kernel, rfl, by decide +kernel, by decide +kernel⟩
abbrev s_is_letters : Stmt := topS 29
abbrev N_is_letters : List Str := ["value", "sign", "one"]
theorem sc_is_letters : FnScope N_is_letters ["value"] (defScope s_is_letters) := ⟨rfl, rfl, rfl, by decide +kernel, rfl, by decide +kernel, by decide +kernel⟩
abbrev s_need_letters : Stmt := topS 30
abbrev N_need_letters : List Str := ["value"]
theorem sc_need_letters : FnScope N_need_letters ["value"] (defScope s_need_letters) := ⟨rfl, rfl, rfl, by decide +kernel, rfl, by decide +kernel, by decide +kernel⟩
abbrev s_cut : Stmt := topS 31
abbrev N_cut : List Str := ["word", "letters", "small", "found", "at", "part"]
theorem sc_cut : FnScope N_cut ["word", "letters"] (defScope s_cut) := ⟨rfl, rfl, rfl, by decide +kernel, rfl, by decide +kernel, by decide +kernel⟩
abbrev s_key_by : Stmt := topS 32
abbrev N_key_by : List Str := ["book", "letters", "people", "words", "town", "names", "year", "title", "place", "volume", "word", "family", "given"]
theorem sc_key_by : FnScope N_key_by ["book", "letters"] (defScope s_key_by) := ⟨rfl, rfl, rfl, by decide +kernel, rfl, by decide +kernel, by decide +kernel⟩
abbrev s_ordered : Stmt := topS 33
abbrev N_ordered : List Str := ["books", "letters"]
theorem sc_ordered : FnScope N_ordered ["books", "letters"] (defScope s_ordered) := ⟨rfl, rfl, rfl, by decide +kernel, rfl, by decide +kernel, by decide +kernel⟩
abbrev s_is_text : Stmt := topS 43
abbrev N_is_text : List Str := ["value", "least", "most", "sign"]
theorem sc_is_text : FnScope N_is_text ["value", "least", "most"] (defScope s_is_text) := ⟨rfl, rfl, rfl, by decide +kernel, rfl, by decide +kernel, by decide +kernel⟩
abbrev s_is_plain_piece : Stmt := topS 44
abbrev N_is_plain_piece : List Str := ["value"]
theorem sc_is_plain_piece : FnScope N_is_plain_piece ["value"] (defScope s_is_plain_piece) := ⟨rfl, rfl, rfl, by decide +kernel, rfl, by decide +kernel, by decide +kernel⟩
abbrev s_are_plain_pieces : Stmt := topS 45
abbrev N_are_plain_pieces : List Str := ["value", "one"]
theorem sc_are_plain_pieces : FnScope N_are_plain_pieces ["value"] (defScope s_are_plain_pieces) := ⟨rfl, rfl, rfl, by decide +kernel, rfl, by decide +kernel, by decide +kernel⟩
abbrev s_is_piece : Stmt := topS 46
abbrev N_is_piece : List Str := ["value"]
theorem sc_is_piece : FnScope N_is_piece ["value"] (defScope s_is_piece) := ⟨rfl, rfl, rfl, by decide +kernel, rfl, by decide +kernel, by decide +kernel⟩
abbrev s_is_shown : Stmt := topS 47
abbrev N_is_shown : List Str := ["value", "given", "dotted", "gap", "join", "last", "most", "rest", "text"]
theorem sc_is_shown : FnScope N_is_shown ["value"] (defScope s_is_shown) := ⟨rfl, rfl, rfl, by decide +kernel, rfl, by decide +kernel, by decide +kernel⟩
abbrev s_signs_of : Stmt := topS 48
abbrev N_signs_of : List Str := ["text", "sign"]
theorem sc_signs_of : FnScope N_signs_of ["text"] (defScope s_signs_of) := ⟨rfl, rfl, rfl, by decide +kernel, rfl, by decide +kernel, by decide +kernel⟩
abbrev s_name_tokens : Stmt := topS 49
abbrev N_name_tokens : List Str := ["shown", "i", "family", "own", "given", "dotted", "gap"]
theorem sc_name_tokens : FnScope N_name_tokens ["shown", "i"] (defScope s_name_tokens) := ⟨rfl, rfl, rfl, by decide +kernel, rfl, by decide +kernel, by decide +kernel⟩
abbrev s_names_tokens : Stmt := topS 50
abbrev N_names_tokens : List Str := ["shown", "n", "many", "found", "i", "_", "join", "last", "most", "rest"]
theorem sc_names_tokens : FnScope N_names_tokens ["shown", "n"] (defScope s_names_tokens) := ⟨rfl, rfl, rfl, by decide +kernel, rfl, by decide +kernel, by decide +kernel⟩
abbrev s_plain_tokens : Stmt := topS 51
abbrev N_plain_tokens : List Str := ["piece", "shown", "shape"]
theorem sc_plain_tokens : FnScope N_plain_tokens ["piece", "shown", "shape"] (defScope s_plain_tokens) := ⟨rfl, rfl, rfl, by decide +kernel, rfl, by decide +kernel, by decide +kernel⟩
abbrev s_plain_pieces : Stmt := topS 52
abbrev N_plain_pieces : List Str := ["pieces", "shape", "found", "piece", "has_it"]
theorem sc_plain_pieces : FnScope N_plain_pieces ["pieces", "shape"] (defScope s_plain_pieces) := ⟨rfl, rfl, rfl, by decide +kernel, rfl, by decide +kernel, by decide +kernel⟩
abbrev s_row_of : Stmt := topS 53
abbrev N_row_of : List Str := ["style", "shape", "pieces", "shown", "piece", "token"]
theorem sc_row_of : FnScope N_row_of ["style", "shape"] (defScope s_row_of) := ⟨rfl, rfl, rfl, by decide +kernel, rfl, by decide +kernel, by decide +kernel⟩
abbrev s_has_no_twice : Stmt := topS 54
abbrev N_has_no_twice : List Str := ["row", "told", "token"]
theorem sc_has_no_twice : FnScope N_has_no_twice ["row"] (defScope s_has_no_twice) := ⟨rfl, rfl, rfl, by decide +kernel, rfl, by decide +kernel, by decide +kernel⟩
abbrev s_is_style : Stmt := topS 55
abbrev N_is_style : List Str := ["value", "shape", "piece"]
theorem sc_is_style : FnScope N_is_style ["value"] (defScope s_is_style) := ⟨rfl, rfl, rfl, by decide +kernel, rfl, by decide +kernel, by decide +kernel⟩
abbrev s_need_style : Stmt := topS 56
abbrev N_need_style : List Str := ["value"]
theorem sc_need_style : FnScope N_need_style ["value"] (defScope s_need_style) := ⟨rfl, rfl, rfl, by decide +kernel, rfl, by decide +kernel, by decide +kernel⟩
abbrev s_set_token : Stmt := topS 58
abbrev N_set_token : List Str := ["token", "book", "names", "year", "title", "place", "volume", "sign"]
theorem sc_set_token : FnScope N_set_token ["token", "book"] (defScope s_set_token) := ⟨rfl, rfl, rfl, by decide +kernel, rfl, by decide +kernel, by decide +kernel⟩
abbrev s_entry_of : Stmt := topS 59
abbrev N_entry_of : List Str := ["style", "book", "token"]
theorem sc_entry_of : FnScope N_entry_of ["style", "book"] (defScope s_entry_of) := ⟨rfl, rfl, rfl, by decide +kernel, rfl, by decide +kernel, by decide +kernel⟩
abbrev s_set_entry : Stmt := topS 60
abbrev N_set_entry : List Str := ["style", "book"]
theorem sc_set_entry : FnScope N_set_entry ["style", "book"] (defScope s_set_entry) := ⟨rfl, rfl, rfl, by decide +kernel, rfl, by decide +kernel, by decide +kernel⟩
abbrev s_set_list : Stmt := topS 61
abbrev N_set_list : List Str := ["style", "books", "letters", "book"]
theorem sc_set_list : FnScope N_set_list ["style", "books", "letters"] (defScope s_set_list) := ⟨rfl, rfl, rfl, by decide +kernel, rfl, by decide +kernel, by decide +kernel⟩
abbrev s_l_reader : Stmt := topS 63
abbrev N_l_reader : List Str := ["_law_script"]
theorem sc_l_reader : FnScope N_l_reader ["_law_script"] (defScope s_l_reader) := ⟨rfl, rfl, rfl, by decide +kernel, rfl, by decide +kernel, by decide +kernel⟩
abbrev s_l_mixed : Stmt := topS 64
abbrev N_l_mixed : List Str := ["_law_number", "_law_turn", "_law_many", "_law_first", "_law_second"]
theorem sc_l_mixed : FnScope N_l_mixed ["_law_number", "_law_turn", "_law_many"] (defScope s_l_mixed) := ⟨rfl, rfl, rfl, by decide +kernel, rfl, by decide +kernel, by decide +kernel⟩
abbrev s_l_draw : Stmt := topS 65
abbrev N_l_draw : List Str := ["_law_reader_here", "_law_many", "_law_digit", "_law_cell"]
theorem sc_l_draw : FnScope N_l_draw ["_law_reader_here", "_law_many"] (defScope s_l_draw) := ⟨rfl, rfl, rfl, by decide +kernel, rfl, by decide +kernel, by decide +kernel⟩
abbrev s_l_small : Stmt := topS 66
abbrev N_l_small : List Str := ["_law_reader_here", "_law_many", "_law_letters_here", "_law_k"]
theorem sc_l_small : FnScope N_l_small ["_law_reader_here", "_law_many"] (defScope s_l_small) := ⟨rfl, rfl, rfl, by decide +kernel, rfl, by decide +kernel, by decide +kernel⟩
abbrev s_l_family : Stmt := topS 67
abbrev N_l_family : List Str := ["_law_reader_here"]
theorem sc_l_family : FnScope N_l_family ["_law_reader_here"] (defScope s_l_family) := ⟨rfl, rfl, rfl, by decide +kernel, rfl, by decide +kernel, by decide +kernel⟩
abbrev s_l_book : Stmt := topS 68
abbrev N_l_book : List Str := ["_law_reader_here", "_law_many", "_law_placed", "_law_volumed", "_law_names", "_law_k", "_law_title", "_law_year", "_law_volume", "_law_place"]
theorem sc_l_book : FnScope N_l_book ["_law_reader_here", "_law_many", "_law_placed", "_law_volumed"] (defScope s_l_book) := ⟨rfl, rfl, rfl, by decide +kernel, rfl, by decide +kernel, by decide +kernel⟩
abbrev s_l_text : Stmt := topS 69
abbrev N_l_text : List Str := ["_law_reader_here", "_law_many", "_law_signs", "_law_few", "_law_row", "_law_k"]
theorem sc_l_text : FnScope N_l_text ["_law_reader_here", "_law_many"] (defScope s_l_text) := ⟨rfl, rfl, rfl, by decide +kernel, rfl, by decide +kernel, by decide +kernel⟩
abbrev s_l_shown : Stmt := topS 70
abbrev N_l_shown : List Str := ["_law_reader_here", "_law_given_here", "_law_dotted", "_law_texts", "_law_gap", "_law_k"]
theorem sc_l_shown : FnScope N_l_shown ["_law_reader_here"] (defScope s_l_shown) := ⟨rfl, rfl, rfl, by decide +kernel, rfl, by decide +kernel, by decide +kernel⟩
abbrev s_l_mark : Stmt := topS 71
abbrev N_l_mark : List Str := ["_law_reader_here"]
theorem sc_l_mark : FnScope N_l_mark ["_law_reader_here"] (defScope s_l_mark) := ⟨rfl, rfl, rfl, by decide +kernel, rfl, by decide +kernel, by decide +kernel⟩
abbrev s_l_piece : Stmt := topS 72
abbrev N_l_piece : List Str := ["_law_reader_here", "_law_field", "_law_way", "_law_there", "_law_lacking", "_law_asked", "_law_k"]
theorem sc_l_piece : FnScope N_l_piece ["_law_reader_here", "_law_field"] (defScope s_l_piece) := ⟨rfl, rfl, rfl, by decide +kernel, rfl, by decide +kernel, by decide +kernel⟩
abbrev s_l_style : Stmt := topS 73
abbrev N_l_style : List Str := ["_law_reader_here", "_law_left", "_law_pieces", "_law_turn", "_law_field"]
theorem sc_l_style : FnScope N_l_style ["_law_reader_here"] (defScope s_l_style) := ⟨rfl, rfl, rfl, by decide +kernel, rfl, by decide +kernel, by decide +kernel⟩
abbrev s_l_same : Stmt := topS 74
abbrev N_l_same : List Str := ["_law_actual", "_law_due", "_law_k"]
theorem sc_l_same : FnScope N_l_same ["_law_actual", "_law_due"] (defScope s_l_same) := ⟨rfl, rfl, rfl, by decide +kernel, rfl, by decide +kernel, by decide +kernel⟩
abbrev s_l_given : Stmt := topS 75
abbrev N_l_given : List Str := ["_law_shown_here", "_law_given_here", "_law_sign"]
theorem sc_l_given : FnScope N_l_given ["_law_shown_here", "_law_given_here"] (defScope s_l_given) := ⟨rfl, rfl, rfl, by decide +kernel, rfl, by decide +kernel, by decide +kernel⟩
abbrev s_l_people : Stmt := topS 76
abbrev N_l_people : List Str := ["_law_shown_here", "_law_names", "_law_many", "_law_found", "_law_k", "_law_given_here"]
theorem sc_l_people : FnScope N_l_people ["_law_shown_here", "_law_names"] (defScope s_l_people) := ⟨rfl, rfl, rfl, by decide +kernel, rfl, by decide +kernel, by decide +kernel⟩
abbrev s_l_line : Stmt := topS 77
abbrev N_l_line : List Str := ["_law_pieces", "_law_shown_here", "_law_book_here", "_law_found", "_law_piece_here", "_law_has", "_law_value"]
theorem sc_l_line : FnScope N_l_line ["_law_pieces", "_law_shown_here", "_law_book_here"] (defScope s_l_line) := ⟨rfl, rfl, rfl, by decide +kernel, rfl, by decide +kernel, by decide +kernel⟩
abbrev s_l_letters : Stmt := topS 78
abbrev N_l_letters : List Str := ["_law_reader_here", "_law_letters_here", "_law_left", "_law_k", "_law_found", "_law_turn", "_law_two"]
theorem sc_l_letters : FnScope N_l_letters ["_law_reader_here"] (defScope s_l_letters) := ⟨rfl, rfl, rfl, by decide +kernel, rfl, by decide +kernel, by decide +kernel⟩
abbrev s_l_cut : Stmt := topS 79
abbrev N_l_cut : List Str := ["_law_word", "_law_letters_here", "_law_found", "_law_at", "_law_turn", "_law_size"]
theorem sc_l_cut : FnScope N_l_cut ["_law_word", "_law_letters_here"] (defScope s_l_cut) := ⟨rfl, rfl, rfl, by decide +kernel, rfl, by decide +kernel, by decide +kernel⟩
abbrev s_l_key : Stmt := topS 80
abbrev N_l_key : List Str := ["_law_book_here", "_law_letters_here", "_law_names", "_law_words", "_law_place", "_law_name", "_law_word"]
theorem sc_l_key : FnScope N_l_key ["_law_book_here", "_law_letters_here"] (defScope s_l_key) := ⟨rfl, rfl, rfl, by decide +kernel, rfl, by decide +kernel, by decide +kernel⟩
abbrev s_l_listed : Stmt := topS 81
abbrev N_l_listed : List Str := ["_law_style_here", "_law_books", "_law_letters_here", "_law_keys", "_law_found", "_law_k", "_law_spot", "_law_book_here", "_law_key_here"]
theorem sc_l_listed : FnScope N_l_listed ["_law_style_here", "_law_books", "_law_letters_here"] (defScope s_l_listed) := ⟨rfl, rfl, rfl, by decide +kernel, rfl, by decide +kernel, by decide +kernel⟩
abbrev s_l_refused : Stmt := topS 82
abbrev N_l_refused : List Str := ["_law_which", "_law_style_here", "_law_book_here", "_law_books", "_law_letters_here", "error"]
theorem sc_l_refused : FnScope N_l_refused ["_law_which", "_law_style_here", "_law_book_here", "_law_books", "_law_letters_here"] (defScope s_l_refused) := ⟨rfl, rfl, rfl, by decide +kernel, rfl, by decide +kernel, by decide +kernel⟩
abbrev s_l_refusals_right : Stmt := topS 83
abbrev N_l_refusals_right : List Str := ["_law_reader_here", "_law_style_here", "_law_book_here", "_law_books", "_law_letters_here", "_law_no_style", "_law_no_book", "_law_no_list", "_law_lost", "_law_no_letters", "_law_bad", "_law_one"]
theorem sc_l_refusals_right : FnScope N_l_refusals_right ["_law_reader_here", "_law_style_here", "_law_book_here", "_law_books", "_law_letters_here"] (defScope s_l_refusals_right) := ⟨rfl, rfl, rfl, by decide +kernel, rfl, by decide +kernel, by decide +kernel⟩
abbrev s_law : Stmt := topS 84
abbrev N_law : List Str := ["_law_script", "_law_reader_here", "_law_style_here", "_law_letters_here", "_law_books", "_law_shape", "_law_listed_here", "_law_book_here", "_law_due", "_law_near"]
theorem sc_law : FnScope N_law ["_law_script"] (defScope s_law) := ⟨rfl, rfl, rfl, by decide +kernel, rfl, by decide +kernel, by decide +kernel⟩
end Ib
set_option Elab.async false
set_option linter.all false
set_option autoImplicit false
set_option maxRecDepth 100000
set_option maxHeartbeats 0
/-! IbHa: the head's Hook and run. -/
namespace Ib
open PySem PySem.Spec PyProof.Rows L2 PySem.W
mutual
def isDB (K : PySem.W.Frag) : D → Value → Bool
  | .non, v => (match v with
    | .none => true
    | _ => false)
  | .bl b, v => (match v with
    | .bool c => b == c
    | _ => false)
  | .int i, v => (match v with
    | .int j _ => decide (i = j)
    | _ => false)
  | .str x, v => (match v with
    | .str y _ => decide (S x = y)
    | _ => false)
  | .tup xs, v => (match v with
    | .ref a => (match K.lookup a with
      | some ⟨.type c, none, .seq its _, sl⟩ => decide (c = "tuple") && (decide (its.size ≤ sizeLine) && (sl.isEmpty && isDsB K xs its.toList))
      | _ => false)
    | _ => false)
def isDsB (K : PySem.W.Frag) : List D → List Value → Bool
  | [], us => us.isEmpty
  | x :: xs, us => (match us with
    | u :: us => isDB K x u && isDsB K xs us
    | [] => false)
end
def gdB (K : PySem.W.Frag) (x : Str) (d : D) : Bool := isDB K d (.ref (He.ga K x))
def oexB (K : PySem.W.Frag) (C : Addr) : Bool := match K.lookup C with
  | some ⟨.type "type", _, .cls cd, sl⟩ => (match cd.mro, sl.toList with
    | .ref C' :: bm, [_, _, _, _, some (.builtin n), _] => C' == C && n == "ValueError.__new__" && cd.hasDict && !cd.hasDel && PySem.HandSPX.refsVE bm
    | _, _ => false)
  | _ => false
def iniA (K : PySem.W.Frag) (x : Str) : Addr := He.ma K (He.ga K x) "__init__"
abbrev FnI : Type := Option (Str × Str × Arguments × FuncBody × Scope × Addr × List Str × Addr)
def fnI (K : PySem.W.Frag) (x : Str) : FnI := match K.lookup (iniA K x) with
  | some ⟨_, _, .func fd, _⟩ => some (fd.name, fd.qualname, fd.params, fd.body, fd.scope, fd.globals, fd.closure.map (·.1), fd.builtins)
  | _ => none
def valI (q : Str) (st : Stmt) : FnI := some ("__init__", q, defArgs st, .stmts (defBody st), defScope st, mainGlobals, ["__class__"], builtinsNs)
def file0 : Str := PySem.Challenge.pw_ibidem_k07_whole_entries_set.main.file
def fnB (K : PySem.W.Frag) (fI C : Addr) : Bool := match K.lookup fI with
  | some ⟨_, _, .func fd, _⟩ => (match fd.code, fd.closure, fd.defaults with
    | .ref cda, [(_, cc)], .none => codeIn K (.ref cda) fd.qualname && ((match K.lookup cda with
        | some ⟨_, _, .fields vs, _⟩ => (match (vs[2]? : Option Value) with
          | some (.str file _) => (file0 == file)
          | _ => false)
        | _ => false) && (match K.lookup cc with
        | some ⟨_, _, .cell (some (.ref C')), _⟩ => C' == C
        | _ => false))
    | _, _, _ => false)
  | _ => false
def eqB (a b : Option Bool) : Bool := match a, b with
  | some x, some y => x == y
  | _, _ => false
def excB (K : PySem.W.Frag) (D : Addr) : Bool := He.eqO (findIn K (.ref D) "__getattribute__") (some (some (.builtin "BaseException.__getattribute__"))) && (He.eqO (findIn K (.ref D) "__getattr__") (some none) && (eqB (subIn K (.ref D) (.type "BaseException")) (some true) && (hasDictIn K D && (He.eqO (findIn K (.ref D) "__class__") (some (some (.builtin "object.__class__"))) &&
  (He.eqO (specialIn K (.builtin "object.__class__") "__get__") (some (some (.builtin "getset_descriptor.__get__"))) && (eqB (takesIn K (.builtin "object.__class__")) (some true) && eqB (mroIn K D (.type "object")) (some true)))))))
def errB (K : PySem.W.Frag) (x : Str) : Bool := oexB K (He.ga K x) && (He.eqO (findIn K (.ref (He.ga K x)) "__setattr__") (some (some (.builtin "object.__setattr__"))) && (decide (typeIn K (.ref (He.ga K x)) = some (.type "type")) && (keepIn K (.ref (He.ga K x)) && (fnB K (iniA K x) (He.ga K x) &&
  (He.eqO (findIn K (.ref (He.ga K x)) "__init__") (some (some (.ref (iniA K x)))) && (decide (typeIn K (.ref (iniA K x)) = some (.type "function")) && (He.eqO (findIn K (.ref (He.ga K x)) "value") (some none) && (eqB (mroIn K (He.ga K x) (.ref (He.ga K x))) (some true) &&
  (He.eqO (ks_superIn K (He.ga K x) (He.ga K x) "__init__") (some (some (.builtin "ValueError.__init__"))) && (He.eqO (nsIn K cStatics "thirdparty.any") (some none) && (eqB (subIn K (.ref (He.ga K x)) (.type "ValueError")) (some true) &&
  (excB K (He.ga K x) && eqB (kitOne K (.ref (He.ga K x)) (.ref (He.ga K "CiteError"))) (some true)))))))))))))
def d_is_integer : He.DefD := ⟨("is_integer", none), "is_integer", "is_integer", defArgs s_is_integer, defBody s_is_integer, defScope s_is_integer, [], []⟩
def d_are_all_of : He.DefD := ⟨("are_all_of", none), "are_all_of", "are_all_of", defArgs s_are_all_of, defBody s_are_all_of, defScope s_are_all_of, [], []⟩
def d_is_family : He.DefD := ⟨("is_family", none), "is_family", "is_family", defArgs s_is_family, defBody s_is_family, defScope s_is_family, [], []⟩
def d_is_given : He.DefD := ⟨("is_given", none), "is_given", "is_given", defArgs s_is_given, defBody s_is_given, defScope s_is_given, [], []⟩
def d_is_title : He.DefD := ⟨("is_title", none), "is_title", "is_title", defArgs s_is_title, defBody s_is_title, defScope s_is_title, [], []⟩
def d_is_name : He.DefD := ⟨("is_name", none), "is_name", "is_name", defArgs s_is_name, defBody s_is_name, defScope s_is_name, [], []⟩
def d_is_book : He.DefD := ⟨("is_book", none), "is_book", "is_book", defArgs s_is_book, defBody s_is_book, defScope s_is_book, [], []⟩
def d_is_list : He.DefD := ⟨("is_list", none), "is_list", "is_list", defArgs s_is_list, defBody s_is_list, defScope s_is_list, [], []⟩
def d_need_book : He.DefD := ⟨("need_book", none), "need_book", "need_book", defArgs s_need_book, defBody s_need_book, defScope s_need_book, [], []⟩
def d_need_list : He.DefD := ⟨("need_list", none), "need_list", "need_list", defArgs s_need_list, defBody s_need_list, defScope s_need_list, [], []⟩
def d_shape_of : He.DefD := ⟨("shape_of", none), "shape_of", "shape_of", defArgs s_shape_of, defBody s_shape_of, defScope s_shape_of, [], []⟩
def d_is_letter : He.DefD := ⟨("is_letter", none), "is_letter", "is_letter", defArgs s_is_letter, defBody s_is_letter, defScope s_is_letter, [], []⟩
def d_is_letters : He.DefD := ⟨("is_letters", none), "is_letters", "is_letters", defArgs s_is_letters, defBody s_is_letters, defScope s_is_letters, [], []⟩
def d_need_letters : He.DefD := ⟨("need_letters", none), "need_letters", "need_letters", defArgs s_need_letters, defBody s_need_letters, defScope s_need_letters, [], []⟩
def d_cut : He.DefD := ⟨("cut", none), "cut", "cut", defArgs s_cut, defBody s_cut, defScope s_cut, [], []⟩
def d_key_by : He.DefD := ⟨("key_by", none), "key_by", "key_by", defArgs s_key_by, defBody s_key_by, defScope s_key_by, [], []⟩
def d_ordered : He.DefD := ⟨("ordered", none), "ordered", "ordered", defArgs s_ordered, defBody s_ordered, defScope s_ordered, [], []⟩
def d_is_text : He.DefD := ⟨("is_text", none), "is_text", "is_text", defArgs s_is_text, defBody s_is_text, defScope s_is_text, [], []⟩
def d_is_plain_piece : He.DefD := ⟨("is_plain_piece", none), "is_plain_piece", "is_plain_piece", defArgs s_is_plain_piece, defBody s_is_plain_piece, defScope s_is_plain_piece, [], []⟩
def d_are_plain_pieces : He.DefD := ⟨("are_plain_pieces", none), "are_plain_pieces", "are_plain_pieces", defArgs s_are_plain_pieces, defBody s_are_plain_pieces, defScope s_are_plain_pieces, [], []⟩
def d_is_piece : He.DefD := ⟨("is_piece", none), "is_piece", "is_piece", defArgs s_is_piece, defBody s_is_piece, defScope s_is_piece, [], []⟩
def d_is_shown : He.DefD := ⟨("is_shown", none), "is_shown", "is_shown", defArgs s_is_shown, defBody s_is_shown, defScope s_is_shown, [], []⟩
def d_signs_of : He.DefD := ⟨("signs_of", none), "signs_of", "signs_of", defArgs s_signs_of, defBody s_signs_of, defScope s_signs_of, [], []⟩
def d_name_tokens : He.DefD := ⟨("name_tokens", none), "name_tokens", "name_tokens", defArgs s_name_tokens, defBody s_name_tokens, defScope s_name_tokens, [], []⟩
def d_names_tokens : He.DefD := ⟨("names_tokens", none), "names_tokens", "names_tokens", defArgs s_names_tokens, defBody s_names_tokens, defScope s_names_tokens, [], []⟩
def d_plain_tokens : He.DefD := ⟨("plain_tokens", none), "plain_tokens", "plain_tokens", defArgs s_plain_tokens, defBody s_plain_tokens, defScope s_plain_tokens, [], []⟩
def d_plain_pieces : He.DefD := ⟨("plain_pieces", none), "plain_pieces", "plain_pieces", defArgs s_plain_pieces, defBody s_plain_pieces, defScope s_plain_pieces, [], []⟩
def d_row_of : He.DefD := ⟨("row_of", none), "row_of", "row_of", defArgs s_row_of, defBody s_row_of, defScope s_row_of, [], []⟩
def d_has_no_twice : He.DefD := ⟨("has_no_twice", none), "has_no_twice", "has_no_twice", defArgs s_has_no_twice, defBody s_has_no_twice, defScope s_has_no_twice, [], []⟩
def d_is_style : He.DefD := ⟨("is_style", none), "is_style", "is_style", defArgs s_is_style, defBody s_is_style, defScope s_is_style, [], []⟩
def d_need_style : He.DefD := ⟨("need_style", none), "need_style", "need_style", defArgs s_need_style, defBody s_need_style, defScope s_need_style, [], []⟩
def d_set_token : He.DefD := ⟨("set_token", none), "set_token", "set_token", defArgs s_set_token, defBody s_set_token, defScope s_set_token, [], []⟩
def d_entry_of : He.DefD := ⟨("entry_of", none), "entry_of", "entry_of", defArgs s_entry_of, defBody s_entry_of, defScope s_entry_of, [], []⟩
def d_set_entry : He.DefD := ⟨("set_entry", none), "set_entry", "set_entry", defArgs s_set_entry, defBody s_set_entry, defScope s_set_entry, [], []⟩
def d_set_list : He.DefD := ⟨("set_list", none), "set_list", "set_list", defArgs s_set_list, defBody s_set_list, defScope s_set_list, [], []⟩
def d_l_reader : He.DefD := ⟨("_law_reader", none), "_law_reader", "_law_reader", defArgs s_l_reader, defBody s_l_reader, defScope s_l_reader, [], []⟩
def d_l_mixed : He.DefD := ⟨("_law_mixed", none), "_law_mixed", "_law_mixed", defArgs s_l_mixed, defBody s_l_mixed, defScope s_l_mixed, [], []⟩
def d_l_draw : He.DefD := ⟨("_law_draw", none), "_law_draw", "_law_draw", defArgs s_l_draw, defBody s_l_draw, defScope s_l_draw, [], []⟩
def d_l_small : He.DefD := ⟨("_law_small", none), "_law_small", "_law_small", defArgs s_l_small, defBody s_l_small, defScope s_l_small, [], []⟩
def d_l_family : He.DefD := ⟨("_law_family", none), "_law_family", "_law_family", defArgs s_l_family, defBody s_l_family, defScope s_l_family, [], []⟩
def d_l_book : He.DefD := ⟨("_law_book", none), "_law_book", "_law_book", defArgs s_l_book, defBody s_l_book, defScope s_l_book, [], []⟩
def d_l_text : He.DefD := ⟨("_law_text", none), "_law_text", "_law_text", defArgs s_l_text, defBody s_l_text, defScope s_l_text, [], []⟩
def d_l_shown : He.DefD := ⟨("_law_shown", none), "_law_shown", "_law_shown", defArgs s_l_shown, defBody s_l_shown, defScope s_l_shown, [], []⟩
def d_l_mark : He.DefD := ⟨("_law_mark", none), "_law_mark", "_law_mark", defArgs s_l_mark, defBody s_l_mark, defScope s_l_mark, [], []⟩
def d_l_piece : He.DefD := ⟨("_law_piece", none), "_law_piece", "_law_piece", defArgs s_l_piece, defBody s_l_piece, defScope s_l_piece, [], []⟩
def d_l_style : He.DefD := ⟨("_law_style", none), "_law_style", "_law_style", defArgs s_l_style, defBody s_l_style, defScope s_l_style, [], []⟩
def d_l_same : He.DefD := ⟨("_law_same", none), "_law_same", "_law_same", defArgs s_l_same, defBody s_l_same, defScope s_l_same, [], []⟩
def d_l_given : He.DefD := ⟨("_law_given", none), "_law_given", "_law_given", defArgs s_l_given, defBody s_l_given, defScope s_l_given, [], []⟩
def d_l_people : He.DefD := ⟨("_law_people", none), "_law_people", "_law_people", defArgs s_l_people, defBody s_l_people, defScope s_l_people, [], []⟩
def d_l_line : He.DefD := ⟨("_law_line", none), "_law_line", "_law_line", defArgs s_l_line, defBody s_l_line, defScope s_l_line, [], []⟩
def d_l_letters : He.DefD := ⟨("_law_letters", none), "_law_letters", "_law_letters", defArgs s_l_letters, defBody s_l_letters, defScope s_l_letters, [], []⟩
def d_l_cut : He.DefD := ⟨("_law_cut", none), "_law_cut", "_law_cut", defArgs s_l_cut, defBody s_l_cut, defScope s_l_cut, [], []⟩
def d_l_key : He.DefD := ⟨("_law_key", none), "_law_key", "_law_key", defArgs s_l_key, defBody s_l_key, defScope s_l_key, [], []⟩
def d_l_listed : He.DefD := ⟨("_law_listed", none), "_law_listed", "_law_listed", defArgs s_l_listed, defBody s_l_listed, defScope s_l_listed, [], []⟩
def d_l_refused : He.DefD := ⟨("_law_refused", none), "_law_refused", "_law_refused", defArgs s_l_refused, defBody s_l_refused, defScope s_l_refused, [], []⟩
def d_l_refusals_right : He.DefD := ⟨("_law_refusals_right", none), "_law_refusals_right", "_law_refusals_right", defArgs s_l_refusals_right, defBody s_l_refusals_right, defScope s_l_refusals_right, [], []⟩
def d_law : He.DefD := ⟨("law", none), "law", "law", defArgs s_law, defBody s_law, defScope s_law, [], []⟩
def fnAll : List He.DefD := ([d_is_integer, d_are_all_of, d_is_family, d_is_given, d_is_title, d_is_name, d_is_book, d_is_list, d_need_book, d_need_list, d_shape_of, d_is_letter, d_is_letters, d_need_letters, d_cut, d_key_by, d_ordered, d_is_text, d_is_plain_piece, d_are_plain_pieces] : List He.DefD) ++ ([d_is_piece, d_is_shown, d_signs_of, d_name_tokens, d_names_tokens, d_plain_tokens, d_plain_pieces, d_row_of, d_has_no_twice, d_is_style, d_need_style, d_set_token, d_entry_of, d_set_entry, d_set_list, d_l_reader, d_l_mixed, d_l_draw, d_l_small, d_l_family] : List He.DefD) ++ ([d_l_book, d_l_text, d_l_shown, d_l_mark, d_l_piece, d_l_style, d_l_same, d_l_given, d_l_people, d_l_line, d_l_letters, d_l_cut, d_l_key, d_l_listed, d_l_refused, d_l_refusals_right, d_law] : List He.DefD)
def faAll : List He.Fa := ([.exm "InvalidStyle" "InvalidStyle" true, .exm "InvalidBook" "InvalidStyle" false, .exm "InvalidBook" "InvalidBook" true, .exm "InvalidList" "InvalidStyle" false, .exm "InvalidList" "InvalidBook" false, .exm "InvalidList" "InvalidList" true, .exm "InvalidLetters" "InvalidStyle" false, .exm "InvalidLetters" "InvalidBook" false, .exm "InvalidLetters" "InvalidList" false, .exm "InvalidLetters" "InvalidLetters" true, .free "super", .glo "is_integer", .glo "are_all_of", .glo "is_family", .glo "is_given", .glo "is_title", .glo "is_name", .glo "is_book", .glo "is_list", .glo "need_book"] : List He.Fa) ++ ([.glo "need_list", .glo "shape_of", .glo "is_letter", .glo "is_letters", .glo "need_letters", .glo "cut", .glo "key_by", .glo "ordered", .glo "is_text", .glo "is_plain_piece", .glo "are_plain_pieces", .glo "is_piece", .glo "is_shown", .glo "signs_of", .glo "name_tokens", .glo "names_tokens", .glo "plain_tokens", .glo "plain_pieces", .glo "row_of", .glo "has_no_twice"] : List He.Fa) ++ ([.glo "is_style", .glo "need_style", .glo "set_token", .glo "entry_of", .glo "set_entry", .glo "set_list", .glo "_law_reader", .glo "_law_mixed", .glo "_law_draw", .glo "_law_small", .glo "_law_family", .glo "_law_book", .glo "_law_text", .glo "_law_shown", .glo "_law_mark", .glo "_law_piece", .glo "_law_style", .glo "_law_same", .glo "_law_given", .glo "_law_people"] : List He.Fa) ++ ([.glo "_law_line", .glo "_law_letters", .glo "_law_cut", .glo "_law_key", .glo "_law_listed", .glo "_law_refused", .glo "_law_refusals_right", .glo "law", .glo "CiteError", .glo "InvalidBook", .glo "InvalidList", .glo "InvalidStyle", .glo "InvalidLetters", .glo "SHAPES", .glo "FIELDS", .glo "WAYS", .free "isinstance", .free "str", .free "tuple", .free "int"] : List He.Fa) ++ ([.free "bool", .free "len", .free "all", .free "min", .free "range", .free "sorted", .free "list", .free "sum", .free "abs", .int "MOST_NAMES" 3, .int "FIRST_YEAR" 1000, .int "LAST_YEAR" 2999, .int "LAST_VOLUME" 999, .int "MOST_LETTERS" 40, .int "MOST_SIGNS" 2, .int "MOST_PIECES" 10, .int "MOST_IN_IF" 3, .int "MOST_MARK" 3, .int "MOST_GAP" 2, .int "MOST_SHOWN" 3] : List He.Fa) ++ ([.int "SHOWN_SIZE" 7, .str "CAPITALS" (S k_ABCDEFGHIJKLMNOPQRST), .str "SMALLS" (S k_abcdefghijklmnopqrst)] : List He.Fa)
def looseAll : List PySem.Str := (["is_integer", "are_all_of", "is_family", "is_given", "is_title", "is_name", "is_book", "is_list", "need_book", "need_list", "shape_of", "is_letter", "is_letters", "need_letters", "cut", "key_by", "ordered", "is_text", "is_plain_piece", "are_plain_pieces"] : List PySem.Str) ++ (["is_piece", "is_shown", "signs_of", "name_tokens", "names_tokens", "plain_tokens", "plain_pieces", "row_of", "has_no_twice", "is_style", "need_style", "set_token", "entry_of", "set_entry", "set_list", "_law_reader", "_law_mixed", "_law_draw", "_law_small", "_law_family"] : List PySem.Str) ++ (["_law_book", "_law_text", "_law_shown", "_law_mark", "_law_piece", "_law_style", "_law_same", "_law_given", "_law_people", "_law_line", "_law_letters", "_law_cut", "_law_key", "_law_listed", "_law_refused", "_law_refusals_right", "CiteError", "InvalidBook", "InvalidList", "InvalidStyle"] : List PySem.Str) ++ (["InvalidLetters", "SHAPES", "FIELDS", "WAYS", "MOST_NAMES", "FIRST_YEAR", "LAST_YEAR", "LAST_VOLUME", "MOST_LETTERS", "MOST_SIGNS", "MOST_PIECES", "MOST_IN_IF", "MOST_MARK", "MOST_GAP", "MOST_SHOWN", "SHOWN_SIZE", "CAPITALS", "SMALLS"] : List PySem.Str)
abbrev Rw : PySem.W.OpenRow := PySem.W.OpenLaw.row PySem.Challenge.rw_ibidem_k07_whole_entries_set
def clsY : List (Str × Str × Stmt) := [("InvalidBook", "InvalidBook.__init__", inClass (topS 2) 0), ("InvalidList", "InvalidList.__init__", inClass (topS 3) 0), ("InvalidStyle", "InvalidStyle.__init__", inClass (topS 4) 0), ("InvalidLetters", "InvalidLetters.__init__", inClass (topS 5) 0)]
def exY (K : PySem.W.Frag) : Bool := (errB K "InvalidBook" && (errB K "InvalidList" && (errB K "InvalidStyle" && errB K "InvalidLetters"))) && (gdB K "SHAPES" D_SHAPES && (gdB K "FIELDS" D_FIELDS && gdB K "WAYS" D_WAYS))
/-- the addresses that are looked at: what the module's names reach, the errors' __init__ with code and cell, the static names -/
def iniL (g : Addr → Option Obj) (K : PySem.W.Frag) (x : Str) : List Addr := match g (iniA K x) with
  | some ⟨_, _, .func fd, _⟩ => iniA K x :: (He.refV fd.code ++ fd.closure.map (·.2))
  | _ => []
def asZ (g : Addr → Option Obj) (as : List Addr) : List Addr := as ++ (["InvalidBook", "InvalidList", "InvalidStyle", "InvalidLetters"] : List Str).flatMap (iniL g (He.frG g as)) ++ [cStatics]
def asY (g : Addr → Option Obj) : List Addr := asZ g (He.asD g 2)
abbrev AlY : Type := (He.AlD × Bool) × List FnI
def tfY : List He.Defn := [("ordered", none)]
def obsK (g : Addr → Option Obj) (K : PySem.W.Frag) : AlY := ((He.obsD faAll fnAll K, exY K && He.tabsB g tfY K), clsY.map fun p => fnI K p.1)
def obsY (g : Addr → Option Obj) : AlY := obsK g (He.frT g (asY g))
def valY : AlY := ((He.valD fnAll, true), clsY.map fun p => valI p.2.1 p.2.2)
structure SaysY (h : Heap) (K : PySem.W.Frag) : Prop where
  d : He.SaysD faAll fnAll K
  more : exY K = true
  hd : PySem.W.codeHdIn K (He.cT K ("ordered", none)).1 (He.cT K ("ordered", none)).2 = true
  out : K.lookup (He.cT K ("ordered", none)).2 = none
  empty : h.get? (He.cT K ("ordered", none)).2 = some { cls := .none, data := .fields #[] }
  ini : clsY.map (fun p => fnI K p.1) = clsY.map fun p => valI p.2.1 p.2.2
theorem saysY_of {h : Heap} (e : obsY h.get? = valY) : SaysY h (He.frT h.get? (asY h.get?)) := by
  generalize hK : He.frT h.get? (asY h.get?) = K at *
  have e0 : obsK h.get? K = valY := by rw [← hK]; exact e
  have e1 : He.obsD faAll fnAll K = He.valD fnAll := congrArg (fun z : AlY => z.1.1) e0
  have e2 : (exY K && He.tabsB h.get? tfY K) = true := congrArg (fun z : AlY => z.1.2) e0
  have e3 : clsY.map (fun p => fnI K p.1) = clsY.map fun p => valI p.2.1 p.2.2 := congrArg (fun z : AlY => z.2) e0
  obtain ⟨h1, h2⟩ := He.ba e2
  obtain ⟨h3, h4⟩ := He.ba (List.all_eq_true.mp h2 ("ordered", none) (by simp [tfY]))
  cases q : h.get? (He.cT K ("ordered", none)).2 with
  | none =>
    rw [q] at h4
    cases h4
  | some o =>
    rw [q] at h4
    refine ⟨e1, h1, h3, ?_, by rw [q, He.emptyTab_eq h4], e3⟩
    have z := He.frT_none (as := asY h.get?) q h4
    rwa [hK] at z
def hookY : PySem.W.Hook where
  α := AlY
  obs := fun s => obsY s.heap.get?
  val := fun _ => valY
  says := fun _ h => ∃ K : PySem.W.Frag, K.In h ∧ SaysY h K
  of := fun _ _ e => ⟨_, He.frT_in, saysY_of e⟩
  keeps := fun _ _ _ ⟨K, hK, c⟩ k => ⟨K, PySem.W.Frag.In.keeps hK k, ⟨c.d, c.more, c.hd, c.out, k _ _ c.empty, c.ini⟩⟩
def obY (s : PySem.W.SharedT) : AlY := obsY (HandSHeadRun.getT s)
theorem obY_eq (s : PySem.W.SharedT) : obY s = hookY.obs s.abs := by
  have e : HandSHeadRun.getT s = s.abs.heap.get? := funext (HandSHeadRun.getT_eq s)
  show obsY _ = obsY _
  rw [e]
theorem runY (w : World) : HandSHeadRun.RunEq Rw (PySem.W.view Rw.prog [84]) hookY obY 4000 looseAll w := by
  intro os
  kernel_rfl
end Ib
set_option Elab.async false
set_option linter.all false
set_option autoImplicit false
set_option maxRecDepth 100000
set_option maxHeartbeats 4000000
/-! Ib1: the data layer's rules for expressions. -/
namespace Ib
open PySem PySem.Spec PyProof.Rows L2
variable [Tabl]

/-! ### tuples that are new: their object is known -/
section
variable {X : Cx} {pins : List (Addr × Obj)} {σ : St} {H : Hp} {s : Shared} {Q : VK}
theorem tupNew {its : List Value} {xs : List V} {t' : Nat} (I : L2.Inv X pins σ H s) (r : Vals xs its) (hz : xs.length ≤ sizeLine)
    (q : ∀ p o, H p = none → Pl o → Q (.ref p) (upd H p (.frz o (.tup xs)))) :
    EP X pins σ Q (.ref s.heap.objs.size) { s with heap := s.heap.push { cls := .type "tuple", data := .seq its.toArray }, toks := t' } := by
  refine ⟨.ref s.heap.objs.size, _, I.laid (t' := t') (o := .frz { cls := .type "tuple", data := .seq its.toArray } (.tup xs)) (fun b ob q => Heap.get?_push_of_some _ q) (Nat.le_refl _) ?_, rfl, q _ _ (I.hok.fresh (Nat.le_refl _)) ⟨rfl, rfl⟩⟩
  exact ⟨Heap.get?_push_size _ rfl, hz, its, r, IsTup.new _ _⟩
def tTupF (t : TA) : TE := fun σ H Q => t σ H fun xs H1 => xs.length ≤ sizeLine ∧ ∀ p o, H1 p = none → Pl o → Q (.ref p) (upd H1 p (.frz o (.tup xs)))
theorem pe_tupF {es : List Expr} {t : TA} {x1} {pos : Pos} (h : PA X es t) : PE X (.Tuple es x1 pos) (tTupF t) := by
  refine ⟨fun pins s σ H Q I hq => ?_⟩
  refine wpAny_Tuple_spliced (thn (h.run pos pins s σ H _ I hq) fun us s1 ⟨xs, H1, I1, r, z, q⟩ => ⟨by rw [← r.length]; exact z, ?_⟩)
  exact tupNew I1 r z q
theorem call_tupleF : CallR X (.type "tuple") (fun xs H Q => ∃ p ys, xs = [.ref p] ∧ SqL X.K H p ys ∧ ∀ l o, H l = none → Pl o → Q (.ref l) (upd H l (.frz o (.tup ys)))) := by
  intro pins s σ H xs us Q I r h
  obtain ⟨p, ys, rfl, hq, q⟩ := h
  obtain ⟨u, rfl, rx⟩ := vals1 r
  cases rx
  obtain ⟨its, r', pl, hz⟩ := I.list hq
  have hlen := r'.length
  refine call_tuple_list pl.isList (fun h' kp => ?_) (by simp only [List.size_toArray] <;> omega)
  have I1 : L2.Inv X pins σ H { s with heap := h' } := I.kept (t' := s.toks) kp
  exact tupNew (t' := s.toks) I1 r' hz q
def rSlTF (K : PySem.W.Frag) : V → Option Int → Option Int → Hp → VK → Prop := fun x lo hi H Q => ∃ a xs, x = .ref a ∧ SqT K H a xs ∧
  ¬ (HT.sIx xs.length 0 lo = 0 ∧ HT.sIx xs.length xs.length hi = xs.length) ∧ ∀ p o, H p = none → Pl o → Q (.ref p) (upd H p (.frz o (.tup (cutV xs lo hi))))
theorem sl_tupF : SlR X (rSlTF X.K) := by
  intro pins s σ H x v vl vu lo hi sl Q I rx hs pl pu h
  obtain ⟨a, xs, rfl, hx, hw, q⟩ := h
  cases rx
  obtain ⟨its, r, ht, hz⟩ := I.tuple hx
  have hlen : its.toArray.size = xs.length := by rw [List.size_toArray]; exact r.length.symm
  refine ⟨"tuple", _, PyProof.Rows.slot_tuple_getitem.lookup, ht.typeIs, ?_⟩
  refine HT.getItem_tuple_cut ht hs pl pu (by rw [hlen]; exact hw) ?_ (by rw [hlen]; exact hz)
  rw [hlen]
  exact tupNew (t' := s.toks) I ((r.drop (HT.sIx xs.length 0 lo)).take (HT.sIx xs.length xs.length hi - HT.sIx xs.length 0 lo)) (Nat.le_trans (cutV_length xs lo hi) hz) q
def rCatTF (K : PySem.W.Frag) : R2 := fun x y H Q => ∃ a b xs ys, x = .ref a ∧ y = .ref b ∧ SqT K H a xs ∧ SqT K H b ys ∧ xs ≠ [] ∧ xs.length + ys.length ≤ sizeLine ∧
  (ys = [] → Q (.ref a) H) ∧ (ys ≠ [] → ∀ p o, H p = none → Pl o → Q (.ref p) (upd H p (.frz o (.tup (xs ++ ys)))))
theorem op_catTF : OpR X (binaryOp .Add) (rCatTF X.K) := by
  intro pins s σ H x y v u Q I rx ry h
  obtain ⟨a, b, xs, ys, rfl, rfl, ha, hb, hx, hz, q1, q2⟩ := h
  cases rx
  cases ry
  obtain ⟨its, r1, p1, _⟩ := I.tuple ha
  obtain ⟨its2, r2, p2, _⟩ := I.tuple hb
  refine HT.cat_tup p1 p2 (fun z => hx (r1.nil_iff.mp z)) (fun z => ⟨.ref a, H, I, rfl, q1 (r2.nil_iff.mp z)⟩) (fun z => ?_) (by rw [← r1.length, ← r2.length]; exact hz)
  exact tupNew (t' := s.toks) I (r1.append r2) (by rw [List.length_append]; exact hz) (q2 fun w => z (r2.nil_iff.mpr w))
end

/-! ### ends of an evaluation -/
section
variable {K : PySem.W.Frag} {σ : St} {H H' H1 : Hp} {δ δ' δ1 : DEnv} {R : U → DEnv → Prop} {Q : VK}
/-- from a step that was made to the whole -/
theorem up_then (a : AR K σ δ H δ1 H1) (E : EnvOk K σ H δ) (hR : ∀ w δ' v H', R w δ' → AR K σ δ H δ' H' → VT K σ H H' δ' v w → Q v H') :
    ∀ w δ' v H', R w δ' → AR K σ δ1 H1 δ' H' → VT K σ H1 H' δ' v w → Q v H' := fun w δ' v H' r b t => hR w δ' v H' r (a.trans b) (t.back a.st.dom)
theorem own_old (E : EnvOk K σ H δ) : ∀ b, M σ δ b → H b ≠ none := fun _ m => E.dom m
theorem AR.own_old (a : AR K σ δ H δ1 H1) (E : EnvOk K σ H δ) : ∀ b, M σ δ1 b → H b ≠ none := fun b m => E.dom (a.sh.symm.M m)
end

/-! ### names and constants -/
@[simp] def dVar (i : Nat) : DE := fun δ R => match δ[i]? with
  | some (some (.d x)) => R (.d x) δ
  | some (some (.lst _)) => R (.bor i) δ
  | some (some (.rdr _ _)) => R (.bor i) δ
  | _ => False
@[simp] def dC (x : D) : DE := fun δ R => R (.d x) δ
section
variable {X : Cx} {pos : Pos}
theorem up_var {K : PySem.W.Frag} {i : Nat} {σ : St} {H : Hp} {Q : VK} (h : up K (dVar i) σ H Q) : tVar i σ H Q := by
  obtain ⟨δ, R, E, h, q⟩ := h
  unfold dVar at h
  cases e : δ[i]? with
  | none => rw [e] at h; exact h.elim
  | some o =>
    cases o with
    | none => rw [e] at h; exact h.elim
    | some w =>
      obtain ⟨v, e1, hv⟩ := E.has i w e
      refine ⟨v, e1, ?_⟩
      rw [e] at h
      cases w with
      | d x => exact q _ _ _ _ h (AR.refl E) hv
      | lst xs => exact q _ _ _ _ h (AR.refl E) ⟨e1, _, e, fun _ z => nomatch z⟩
      | rdr ls n => exact q _ _ _ _ h (AR.refl E) ⟨e1, _, e, fun _ z => nomatch z⟩
      | bor j => exact h.elim
theorem dv (i : Nat) {x : Str} (hN : X.N[i]? = some x := by rfl) (hv : Vis X.env.scope x := by first | exact Or.inl rfl | exact Or.inr (Or.inl rfl) | exact Or.inr (Or.inr rfl)) (hd : (x == ("__debug__" : Str)) = false := by decide)
    (hcd : (x == ("__classdict__" : Str)) = false := by decide) : PE X (.Name x pos) (up X.K (dVar i)) := PE.imp (pv i hN hv hd hcd) fun _ _ _ h => up_var h
theorem up_c {K : PySem.W.Frag} {x : D} {v : V} (hv : ∀ H, Is K H v x) {σ : St} {H : Hp} {Q : VK} (h : up K (dC x) σ H Q) : tC v σ H Q := by
  obtain ⟨δ, R, E, h, q⟩ := h
  exact q _ _ _ _ h (AR.refl E) (hv H)
theorem de_int {i j} : PE X (.Constant (.int i) j pos) (up X.K (dC (.int i))) := PE.imp pe_int fun _ _ _ h => up_c (fun _ => .int _) h
theorem de_bl {b j} : PE X (.Constant (.bool b) j pos) (up X.K (dC (.bl b))) := PE.imp pe_bl fun _ _ _ h => up_c (fun _ => .bl _) h
theorem de_non {j} : PE X (.Constant .none j pos) (up X.K (dC .non)) := PE.imp pe_non fun _ _ _ h => up_c (fun _ => .non) h
theorem de_str {x : Str} {j} {c : Cs} (hx : x = S c) : PE X (.Constant (.str x) j pos) (up X.K (dC (.str c))) := PE.imp pe_str fun _ _ _ h => up_c (fun _ => by rw [hx]; exact .str c) h
/-- a module's constant -/
theorem de_glob {x : Str} {u : Value} {v : V} {d : D} (hg : Gl X x) (hm : X.mg x = some u) (r : RelV v u) (hv : ∀ H, Is X.K H v d) (hd : (x == ("__debug__" : Str)) = false := by decide) : PE X (.Name x pos) (up X.K (dC d)) :=
  PE.imp (pe_glob hg hm r hd) fun _ _ _ h => up_c hv h
end

/-- one of two, by a bool -/
def ifB (k : Bool) (a b : Prop) : Prop := match k with
  | true => a
  | false => b
@[simp] theorem ifB_true (a b : Prop) : ifB true a b = a := rfl
@[simp] theorem ifB_false (a b : Prop) : ifB false a b = b := rfl
theorem ifB_of {k : Bool} {a b : Prop} (h1 : k = true → a) (h2 : k = false → b) : ifB k a b := by
  cases k with
  | true => exact h1 rfl
  | false => exact h2 rfl
/-! ### two operands -/
abbrev V2 := U → U → DEnv → (U → DEnv → Prop) → Prop
@[simp] def d2 (r : V2) (a b : DE) : DE := fun δ R => a δ fun x δ1 => b δ1 fun y δ2 => r x y δ2 R
def Lift2 (K : PySem.W.Frag) (r : R2) (dr : V2) : Prop := ∀ (σ : St) (δ : DEnv) (H H0 : Hp) (x y : V) (w1 w2 : U) (R : U → DEnv → Prop) (Q : VK), EnvOk K σ H δ → (∀ b, M σ δ b → H0 b ≠ none) → VT K σ H0 H δ x w1 → VT K σ H0 H δ y w2 →
  dr w1 w2 δ R → (∀ w δ' v H', R w δ' → AR K σ δ H δ' H' → VT K σ H H' δ' v w → Q v H') → r x y H Q
theorem up2 {K : PySem.W.Frag} {r : R2} {dr : V2} (l : Lift2 K r dr) {a b : DE} {σ : St} {H : Hp} {Q : VK} (h : up K (d2 dr a b) σ H Q) : tOp r (up K a) (up K b) σ H Q := by
  obtain ⟨δ, R, E, h, q⟩ := h
  refine ⟨δ, _, E, h, fun x δ1 v1 H1 h1 a1 t1 => ?_⟩
  refine ⟨δ1, _, a1.env, h1, fun y δ2 v2 H2 h2 a2 t2 => ?_⟩
  exact l σ δ2 H2 H v1 v2 x y R Q a2.env ((a1.trans a2).own_old E) (t1.carry a1.env a2 (a1.own_old E)) (t2.back a1.st.dom) h2 (up_then (a1.trans a2) E q)
section
variable {X : Cx} {a b c : Expr} {da db dc : DE} {pos : Pos}
theorem de_op {op : Operator} {r : R2} {dr : V2} (ho : OpR X (binaryOp op) r) (l : Lift2 X.K r dr) (ha : PE X a (up X.K da)) (hb : PE X b (up X.K db)) : PE X (.BinOp a op b pos) (up X.K (d2 dr da db)) :=
  PE.imp (pe_op ho ha hb) fun _ _ _ h => up2 l h
theorem de_cmp {op : CmpOp} {r : R2} {dr : V2} (ho : OpR X (compareOp op) r) (l : Lift2 X.K r dr) (ha : PE X a (up X.K da)) (hb : PE X b (up X.K db)) (hm : behindInMarks op b = false) : PE X (.Compare a [op] [b] pos) (up X.K (d2 dr da db)) :=
  PE.imp (pe_cmpR ho ha hb hm) fun _ _ _ h => up2 l h
/-- a value that is a bool, as a test -/
@[simp] def dB (de : DE) : DT := fun δ R => de δ fun w δ' => match w with
  | .d (.bl k) => R k δ'
  | _ => False
theorem upB {K : PySem.W.Frag} {de : DE} {σ : St} {H : Hp} {Q : Bool → Hp → Prop} (h : upT K (dB de) σ H Q) : up K de σ H (fun x H' => ∃ k, x = .bl k ∧ Q k H') := by
  obtain ⟨δ, R, E, h, q⟩ := h
  refine ⟨δ, _, E, h, fun w δ' v H' hw a t => ?_⟩
  cases w with
  | d x =>
    cases x with
    | bl k =>
      cases (show Is K H' v (.bl k) from t)
      exact ⟨k, rfl, q _ _ _ hw a⟩
    | _ => exact hw.elim
  | _ => exact hw.elim
theorem dt_cmp {op : CmpOp} {r : R2} {dr : V2} (ho : OpR X (compareOp op) r) (l : Lift2 X.K r dr) (ha : PE X a (up X.K da)) (hb : PE X b (up X.K db)) (hm : behindInMarks op b = false) : PT X (.Compare a [op] [b] pos) (upT X.K (dB (d2 dr da db))) :=
  PT.imp (pt_cmpR ho ha hb hm) fun _ _ _ h => up2 l (upB h)
theorem dt_val {e : Expr} {de : DE} (h : PE X e (up X.K de)) (he : ∀ whole, isTrue e X.env whole = (do let v ← whole; standAt e.pos; holding [v] (truthy v)) := by intro _; rfl) : PT X e (upT X.K (dB de)) :=
  PT.imp (pt_val h he) fun _ _ _ h => upB h
/-- a subscript -/
theorem de_ix {r : R2} {dr : V2} (hr : IxR X r) (l : Lift2 X.K r dr) (ha : PE X a (up X.K da)) (hb : PE X b (up X.K db)) (hs : PlainIx b := by exact fun _ _ => rfl) : PE X (.Subscript a b pos) (up X.K (d2 dr da db)) :=
  PE.imp (pe_ix hr ha hb hs) fun _ _ _ h => up2 l h
/-- a < b < c: the comparisons give bools -/
@[simp] def dChain (r r' : V2) (a b c : DE) : DE := fun δ R => a δ fun x δ1 => b δ1 fun y δ2 => r x y δ2 fun z δ3 => match z with
  | .d (.bl k) => ifB k (c δ3 fun u δ4 => r' y u δ4 R) (R (.d (.bl false)) δ3)
  | _ => False
end

/-! ### scalars -/
/-- an operation of two data that gives a datum -/
@[simp] def p2 (f : D → D → Option D) : V2 := fun x y δ R => match x, y with
  | .d a, .d b => (match f a b with
    | some e => R (.d e) δ
    | none => False)
  | _, _ => False
theorem lift_p2 {K : PySem.W.Frag} {r : R2} {f : D → D → Option D} (h : ∀ (H : Hp) (x y : V) (a b e : D) (Q : VK), Is K H x a → Is K H y b → f a b = some e → (∀ v, Is K H v e → Q v H) → r x y H Q) : Lift2 K r (p2 f) := by
  intro σ δ H H0 x y w1 w2 R Q E _ t1 t2 hd q
  unfold p2 at hd
  cases w1 with
  | d a =>
    cases w2 with
    | d b =>
      cases e : f a b with
      | none => simp only [e] at hd
      | some z =>
        simp only [e] at hd
        exact h H x y a b z Q t1 t2 e fun v hv => q _ _ _ _ hd (AR.refl E) hv
    | _ => exact hd.elim
  | _ => exact hd.elim
@[simp] def iOp (f : Int → Int → Int) : D → D → Option D
  | .int i, .int j => some (.int (f i j))
  | _, _ => none
@[simp] def iCmp (f : Int → Int → Bool) : D → D → Option D
  | .int i, .int j => some (.bl (f i j))
  | _, _ => none
theorem lift_iOp {K : PySem.W.Frag} (f : Int → Int → Int) : Lift2 K (rI0 fun i j => .int (f i j)) (p2 (iOp f)) := lift_p2 fun H x y a b e Q ha hb he q => by
  cases ha <;> cases hb <;> simp only [iOp, Option.some.injEq, reduceCtorEq] at he
  subst he
  exact ⟨_, _, rfl, rfl, q _ (.int _)⟩
theorem lift_iCmp {K : PySem.W.Frag} (f : Int → Int → Bool) : Lift2 K (rI0 fun i j => .bl (f i j)) (p2 (iCmp f)) := lift_p2 fun H x y a b e Q ha hb he q => by
  cases ha <;> cases hb <;> simp only [iCmp, Option.some.injEq, reduceCtorEq] at he
  subst he
  exact ⟨_, _, rfl, rfl, q _ (.bl _)⟩
@[simp] def iMul : D → D → Option D
  | .int i, .int j => if (-(2 ^ 64) < i ∧ i < 2 ^ 64) ∨ (-(2 ^ 64) < j ∧ j < 2 ^ 64) then some (.int (i * j)) else none
  | _, _ => none
theorem lift_mul {K : PySem.W.Frag} : Lift2 K (rI CMul fun i j => .int (i * j)) (p2 iMul) := lift_p2 fun H x y a b e Q ha hb he q => by
  cases ha <;> cases hb <;> simp only [iMul, reduceCtorEq] at he
  split at he
  · rename_i hc
    cases he
    exact ⟨_, _, rfl, rfl, hc, q _ (.int _)⟩
  · cases he
@[simp] def iDiv : D → D → Option D
  | .int i, .int j => if 0 < j ∧ j < 1073741824 then some (.int (i / j)) else none
  | _, _ => none
theorem lift_div {K : PySem.W.Frag} : Lift2 K (rI CDiv fun i j => .int (i / j)) (p2 iDiv) := lift_p2 fun H x y a b e Q ha hb he q => by
  cases ha <;> cases hb <;> simp only [iDiv, reduceCtorEq] at he
  split at he
  · rename_i hc
    cases he
    exact ⟨_, _, rfl, rfl, hc, q _ (.int _)⟩
  · cases he
@[simp] def iMod : D → D → Option D
  | .int i, .int j => if 0 < j then some (.int (i % j)) else none
  | _, _ => none
theorem lift_mod {K : PySem.W.Frag} : Lift2 K (rI (fun _ j => 0 < j) fun i j => .int (i % j)) (p2 iMod) := lift_p2 fun H x y a b e Q ha hb he q => by
  cases ha <;> cases hb <;> simp only [iMod, reduceCtorEq] at he
  split at he
  · rename_i hc
    cases he
    exact ⟨_, _, rfl, rfl, hc, q _ (.int _)⟩
  · cases he
/-- == and != of texts, of ints, of bools -/
@[simp] def sEq : D → D → Option D
  | .int i, .int j => some (.bl (decide (i = j)))
  | .str x, .str y => some (.bl (decide (x = y)))
  | .bl x, .bl y => some (.bl (decide (x = y)))
  | _, _ => none
@[simp] def sNe : D → D → Option D
  | .int i, .int j => some (.bl (!decide (i = j)))
  | .str x, .str y => some (.bl (!decide (x = y)))
  | .bl x, .bl y => some (.bl (!decide (x = y)))
  | _, _ => none
theorem decS (x y : Cs) : decide (V.str (S x) = V.str (S y)) = decide (x = y) := by
  by_cases h : x = y
  · subst h; simp
  · rw [decide_eq_false h, decide_eq_false]
    intro z
    injection z with z
    exact h (S_inj z)
theorem decB (x y : Bool) : decide (V.bl x = V.bl y) = decide (x = y) := by simp only [V.bl.injEq]
theorem decI (x y : Int) : decide (V.int x = V.int y) = decide (x = y) := by simp only [V.int.injEq]
theorem lift_eq {K : PySem.W.Frag} : Lift2 K rEq (p2 sEq) := lift_p2 fun H x y a b e Q ha hb he q => by
  cases ha <;> cases hb <;> simp only [sEq, Option.some.injEq, reduceCtorEq] at he <;> subst he <;> refine ⟨rfl, q _ ?_⟩
  · rw [decB]; exact .bl _
  · rw [decI]; exact .bl _
  · rw [decS]; exact .bl _
theorem lift_ne {K : PySem.W.Frag} : Lift2 K rNe (p2 sNe) := lift_p2 fun H x y a b e Q ha hb he q => by
  cases ha <;> cases hb <;> simp only [sNe, Option.some.injEq, reduceCtorEq] at he <;> subst he <;> refine ⟨rfl, q _ ?_⟩
  · rw [decB]; exact .bl _
  · rw [decI]; exact .bl _
  · rw [decS]; exact .bl _
/-- texts: +, <=, in -/
@[simp] def sCat : D → D → Option D
  | .str x, .str y => if x.length + y.length ≤ sizeLine then some (.str (x ++ y)) else none
  | _, _ => none
theorem lift_sCat {K : PySem.W.Frag} : Lift2 K (fun x y H Q => ∃ i j, x = .str i ∧ y = .str j ∧ i.length + j.length ≤ sizeLine ∧ Q (.str (i ++ j)) H) (p2 sCat) := lift_p2 fun H x y a b e Q ha hb he q => by
  cases ha <;> cases hb <;> simp only [sCat, reduceCtorEq] at he
  split at he
  · rename_i hc
    cases he
    refine ⟨_, _, rfl, rfl, by rw [S_len, S_len]; exact hc, q _ ?_⟩
    rw [S_app]
    exact .str _
  · cases he
@[simp] def sLe : D → D → Option D
  | .str x, .str y => some (.bl (!decide (y < x)))
  | _, _ => none
theorem lift_sLe {K : PySem.W.Frag} : Lift2 K (fun x y H Q => ∃ i j, x = .str i ∧ y = .str j ∧ Q (.bl (!decide (j.cps.toList < i.cps.toList))) H) (p2 sLe) := lift_p2 fun H x y a b e Q ha hb he q => by
  cases ha <;> cases hb <;> simp only [sLe, Option.some.injEq, reduceCtorEq] at he
  subst he
  refine ⟨_, _, rfl, rfl, q _ ?_⟩
  simp only [S_tl]
  exact .bl _
@[simp] def sIn1 : D → D → Option D
  | .str [c], .str z => some (.bl (decide (c ∈ z)))
  | _, _ => none
theorem lift_sIn1 {K : PySem.W.Frag} : Lift2 K (fun x y H Q => ∃ (c : Nat) (z : Str), x = .str ⟨#[c]⟩ ∧ y = .str z ∧ Q (.bl (decide (c ∈ z.cps.toList))) H) (p2 sIn1) := lift_p2 fun H x y a b e Q ha hb he q => by
  cases ha with
  | str xs =>
    cases hb with
    | str ys =>
      match xs with
      | [c] =>
        simp only [sIn1, Option.some.injEq] at he
        subst he
        refine ⟨c, S ys, rfl, rfl, q _ ?_⟩
        rw [S_tl]
        exact .bl _
      | [] => simp only [sIn1, reduceCtorEq] at he
      | _ :: _ :: _ => simp only [sIn1, reduceCtorEq] at he
    | _ => simp only [sIn1, reduceCtorEq] at he
  | _ => simp only [sIn1, reduceCtorEq] at he
@[simp] def nIs : D → D → Option D
  | .non, .non => some (.bl true)
  | _, .non => some (.bl false)
  | _, _ => none
@[simp] def nNot : D → D → Option D
  | .non, .non => some (.bl false)
  | _, .non => some (.bl true)
  | _, _ => none
theorem lift_isN {K : PySem.W.Frag} : Lift2 K (fun x y H Q => y = .non ∧ Q (.bl (decide (x = .non))) H) (p2 nIs) := lift_p2 fun H x y a b e Q ha hb he q => by
  cases hb <;> cases ha <;> simp only [nIs, Option.some.injEq, reduceCtorEq] at he <;> subst he <;> refine ⟨rfl, q _ ?_⟩ <;> first | exact .bl true | exact .bl false
theorem lift_notN {K : PySem.W.Frag} : Lift2 K (fun x y H Q => y = .non ∧ Q (.bl (!decide (x = .non))) H) (p2 nNot) := lift_p2 fun H x y a b e Q ha hb he q => by
  cases hb <;> cases ha <;> simp only [nNot, Option.some.injEq, reduceCtorEq] at he <;> subst he <;> refine ⟨rfl, q _ ?_⟩ <;> first | exact .bl true | exact .bl false
end Ib
set_option Elab.async false
set_option linter.all false
set_option autoImplicit false
set_option maxRecDepth 100000
set_option maxHeartbeats 4000000
/-! Ib2: tests, sequences, argument lists, displays, built-in calls and methods. -/
namespace Ib
open PySem PySem.Spec PyProof.Rows L2
variable [Tabl]

/-! ### and, or, not, if, chains -/
@[simp] def dAnd (a b : DT) : DT := fun δ R => a δ fun c δ1 => ifB c (b δ1 R) (R false δ1)
@[simp] def dOr (a b : DT) : DT := fun δ R => a δ fun c δ1 => ifB c (R true δ1) (b δ1 R)
@[simp] def dNot (a : DT) : DT := fun δ R => a δ fun c δ1 => R (!c) δ1
@[simp] def dIf (c : DT) (a b : DE) : DE := fun δ R => c δ fun k δ1 => ifB k (a δ1 R) (b δ1 R)
@[simp] def dAndV (a b : DE) : DE := fun δ R => a δ fun w δ1 => match w with
  | .d (.bl k) => ifB k (b δ1 R) (R (.d (.bl false)) δ1)
  | _ => False
@[simp] def dOrV (a b : DE) : DE := fun δ R => a δ fun w δ1 => match w with
  | .d (.bl k) => ifB k (R (.d (.bl true)) δ1) (b δ1 R)
  | _ => False
@[simp] def dNotV (a : DE) : DE := fun δ R => a δ fun w δ1 => match w with
  | .d (.bl k) => R (.d (.bl !k)) δ1
  | _ => False
theorem up_thenT {K : PySem.W.Frag} {σ : St} {H H1 : Hp} {δ δ1 : DEnv} {R : Bool → DEnv → Prop} {Q : Bool → Hp → Prop} (a : AR K σ δ H δ1 H1) (hR : ∀ b δ' H', R b δ' → AR K σ δ H δ' H' → Q b H') :
    ∀ b δ' H', R b δ' → AR K σ δ1 H1 δ' H' → Q b H' := fun b δ' H' r c => hR b δ' H' r (a.trans c)
theorem isb {K : PySem.W.Frag} {H : Hp} {v : V} {k : Bool} (h : Is K H v (.bl k)) : v = .bl k := by cases h; rfl
section
variable {X : Cx} {a b c : Expr} {da db dc : DE} {ta tb tc : DT} {rest : List Expr} {pos : Pos}
theorem PW.imp {X : Cx} {e : Expr} {t t' : TT} (h : PW X e t) (i : ∀ σ H Q, t' σ H Q → t σ H Q) : PW X e t' := ⟨fun wh pins s σ H Q I q => h.run wh pins s σ H Q I (i _ _ _ q)⟩
theorem up_and {K : PySem.W.Frag} {σ : St} {H : Hp} {Q : Bool → Hp → Prop} (h : upT K (dAnd ta tb) σ H Q) : tAnd (upT K ta) (upT K tb) σ H Q := by
  obtain ⟨δ, R, E, h, q⟩ := h
  refine ⟨δ, _, E, h, fun k δ1 H1 h1 a1 => ?_⟩
  cases k with
  | true => exact ⟨δ1, R, a1.env, h1, up_thenT a1 q⟩
  | false => exact q _ _ _ h1 a1
theorem up_or {K : PySem.W.Frag} {σ : St} {H : Hp} {Q : Bool → Hp → Prop} (h : upT K (dOr ta tb) σ H Q) : tOr (upT K ta) (upT K tb) σ H Q := by
  obtain ⟨δ, R, E, h, q⟩ := h
  refine ⟨δ, _, E, h, fun k δ1 H1 h1 a1 => ?_⟩
  cases k with
  | true => exact q _ _ _ h1 a1
  | false => exact ⟨δ1, R, a1.env, h1, up_thenT a1 q⟩
theorem dw_and1 (ha : PT X a (upT X.K ta)) : PW X (.BoolOp .And [a] pos) (upT X.K ta) := pw_and1 ha
theorem dw_or1 (ha : PT X a (upT X.K ta)) : PW X (.BoolOp .Or [a] pos) (upT X.K ta) := pw_or1 ha
theorem dw_and (ha : PT X a (upT X.K ta)) (hb : PW X (.BoolOp .And (b :: rest) pos) (upT X.K tb)) : PW X (.BoolOp .And (a :: b :: rest) pos) (upT X.K (dAnd ta tb)) := PW.imp (pw_and ha hb) fun _ _ _ h => up_and h
theorem dw_or (ha : PT X a (upT X.K ta)) (hb : PW X (.BoolOp .Or (b :: rest) pos) (upT X.K tb)) : PW X (.BoolOp .Or (a :: b :: rest) pos) (upT X.K (dOr ta tb)) := PW.imp (pw_or ha hb) fun _ _ _ h => up_or h
theorem dt_not (ha : PT X a (upT X.K ta)) : PT X (.UnaryOp .Not a pos) (upT X.K (dNot ta)) := PT.imp (pt_not ha) fun _ _ _ ⟨δ, R, E, h, q⟩ => ⟨δ, _, E, h, fun k δ1 H1 h1 a1 => q _ _ _ h1 a1⟩
theorem de_ifExp (hc : PT X c (upT X.K tc)) (ha : PE X a (up X.K da)) (hb : PE X b (up X.K db)) : PE X (.IfExp c a b pos) (up X.K (dIf tc da db)) := PE.imp (pe_ifExp hc ha hb) fun _ _ _ ⟨δ, R, E, h, q⟩ =>
  ⟨δ, _, E, h, fun k δ1 H1 h1 a1 => by
    cases k with
    | true => exact ⟨δ1, R, a1.env, h1, up_then a1 E q⟩
    | false => exact ⟨δ1, R, a1.env, h1, up_then a1 E q⟩⟩
theorem de_one {op} (h : PE X a (up X.K da)) : PE X (.BoolOp op [a] pos) (up X.K da) := pe_one h
theorem de_and (ha : PE X a (up X.K da)) (hb : PE X (.BoolOp .And (b :: rest) pos) (up X.K db)) : PE X (.BoolOp .And (a :: b :: rest) pos) (up X.K (dAndV da db)) := PE.imp (pe_and ha hb) fun _ _ _ ⟨δ, R, E, h, q⟩ =>
  ⟨δ, _, E, h, fun w δ1 v H1 h1 a1 t1 => by
    cases w with
    | d x =>
      cases x with
      | bl k =>
        refine ⟨k, isb t1, ?_⟩
        cases k with
        | true => exact ⟨δ1, R, a1.env, h1, up_then a1 E q⟩
        | false => exact q _ _ _ _ h1 a1 (Is.bl false)
      | _ => exact h1.elim
    | _ => exact h1.elim⟩
theorem de_or (ha : PE X a (up X.K da)) (hb : PE X (.BoolOp .Or (b :: rest) pos) (up X.K db)) : PE X (.BoolOp .Or (a :: b :: rest) pos) (up X.K (dOrV da db)) := PE.imp (pe_or ha hb) fun _ _ _ ⟨δ, R, E, h, q⟩ =>
  ⟨δ, _, E, h, fun w δ1 v H1 h1 a1 t1 => by
    cases w with
    | d x =>
      cases x with
      | bl k =>
        refine ⟨k, isb t1, ?_⟩
        cases k with
        | false => exact ⟨δ1, R, a1.env, h1, up_then a1 E q⟩
        | true => exact q _ _ _ _ h1 a1 (Is.bl true)
      | _ => exact h1.elim
    | _ => exact h1.elim⟩
theorem de_not (ha : PE X a (up X.K da)) : PE X (.UnaryOp .Not a pos) (up X.K (dNotV da)) := PE.imp (pe_not ha) fun _ _ _ ⟨δ, R, E, h, q⟩ =>
  ⟨δ, _, E, h, fun w δ1 v H1 h1 a1 t1 => by
    cases w with
    | d x =>
      cases x with
      | bl k => exact ⟨k, isb t1, q _ _ _ _ h1 a1 (Is.bl _)⟩
      | _ => exact h1.elim
    | _ => exact h1.elim⟩
end
section
variable {X : Cx} {a b c : Expr} {da db dc : DE} {pos : Pos}
theorem up_chain {K : PySem.W.Frag} {r r' : R2} {dr dr' : V2} (l : Lift2 K r dr) (l' : Lift2 K r' dr') {σ : St} {H : Hp} {Q : VK} (h : up K (dChain dr dr' da db dc) σ H Q) :
    tChain r r' (up K da) (up K db) (up K dc) σ H Q := by
  obtain ⟨δ, R, E, h, q⟩ := h
  refine ⟨δ, _, E, h, fun x δ1 v1 H1 h1 a1 t1 => ?_⟩
  refine ⟨δ1, _, a1.env, h1, fun y δ2 v2 H2 h2 a2 t2 => ?_⟩
  have a12 := a1.trans a2
  have y0 : VT K σ H H2 δ2 v2 y := t2.back a1.st.dom
  refine l σ δ2 H2 H v1 v2 x y _ _ a2.env (a12.own_old E) (t1.carry a1.env a2 (a1.own_old E)) y0 h2 fun z δ3 v3 H3 h3 a3 t3 => ?_
  cases z with
  | d d0 =>
    cases d0 with
    | bl k =>
      refine ⟨k, isb t3, ?_⟩
      have a123 := a12.trans a3
      cases k with
      | true =>
        refine ⟨δ3, _, a3.env, h3, fun u δ4 v4 H4 h4 a4 t4 => ?_⟩
        have y3 : VT K σ H H3 δ3 v2 y := y0.carry a2.env a3 (a12.own_old E)
        exact l' σ δ4 H4 H v2 v4 y u R Q a4.env ((a123.trans a4).own_old E) (y3.carry a3.env a4 (a123.own_old E)) (t4.back a123.st.dom) h4 (up_then (a123.trans a4) E q)
      | false => exact q _ _ _ _ h3 a123 (Is.bl false)
    | _ => exact h3.elim
  | _ => exact h3.elim
theorem de_chain {op op' : CmpOp} {r r' : R2} {dr dr' : V2} (ho : OpR X (compareOp op) r) (l : Lift2 X.K r dr) (ho' : OpR X (compareOp op') r') (l' : Lift2 X.K r' dr') (ha : PE X a (up X.K da)) (hb : PE X b (up X.K db)) (hc : PE X c (up X.K dc))
    (hm : lastMarks [op, op'] [b, c] = false := by with_unfolding_all rfl) : PE X (.Compare a [op, op'] [b, c] pos) (up X.K (dChain dr dr' da db dc)) :=
  PE.imp (pe_chain ho ho' ha hb hc hm) fun _ _ _ h => up_chain l l' h
theorem dt_chain {op op' : CmpOp} {r r' : R2} {dr dr' : V2} (ho : OpR X (compareOp op) r) (l : Lift2 X.K r dr) (ho' : OpR X (compareOp op') r') (l' : Lift2 X.K r' dr') (ha : PE X a (up X.K da)) (hb : PE X b (up X.K db)) (hc : PE X c (up X.K dc))
    (hm : lastMarks [op, op'] [b, c] = false := by with_unfolding_all rfl) : PT X (.Compare a [op, op'] [b, c] pos) (upT X.K (dB (dChain dr dr' da db dc))) :=
  PT.imp (pt_chain ho ho' ha hb hc hm) fun _ _ _ h => up_chain l l' (upB h)
end
/-! ### sequences -/
@[simp] def lstU (δ : DEnv) : U → Option (List D)
  | .lst xs => some xs
  | .bor i => (match δ[i]? with
    | some (some (.lst xs)) => some xs
    | _ => none)
  | _ => none
@[simp] def seqU (δ : DEnv) : U → Option (List D)
  | .d (.tup xs) => some xs
  | .lst xs => some xs
  | .bor i => (match δ[i]? with
    | some (some (.lst xs)) => some xs
    | _ => none)
  | _ => none
section
variable {K : PySem.W.Frag} {σ : St} {H H0 : Hp} {δ : DEnv} {v : V} {w : U} {xs : List D}
theorem lstU_of (E : EnvOk K σ H δ) (t : VT K σ H0 H δ v w) (h : lstU δ w = some xs) : ∃ a vs, v = .ref a ∧ H a = some (.lst vs) ∧ Iss K H vs xs := by
  cases w with
  | d x => cases h
  | lst ys =>
    cases h
    exact t.1
  | rdr ls n => cases h
  | bor i =>
    unfold lstU at h
    cases e : δ[i]? with
    | none => simp only [e] at h; cases h
    | some o =>
      cases o with
      | none => simp only [e] at h; cases h
      | some c =>
        simp only [e] at h
        cases c with
        | lst ys =>
          cases h
          obtain ⟨v', e1, hv⟩ := E.has i _ e
          rw [t.1] at e1
          cases e1
          exact hv
        | _ => cases h
theorem seqU_of (E : EnvOk K σ H δ) (t : VT K σ H0 H δ v w) (h : seqU δ w = some xs) : ∃ a vs, v = .ref a ∧ ((∃ zs, w = .d (.tup zs)) ∧ TupAt K H a vs ∨ H a = some (.lst vs)) ∧ Iss K H vs xs := by
  cases w with
  | d x =>
    cases x with
    | tup ys =>
      cases h
      cases (show Is K H v (.tup xs) from t) with
      | tup ht hi => exact ⟨_, _, rfl, .inl ⟨⟨_, rfl⟩, ht⟩, hi⟩
    | _ => cases h
  | lst ys =>
    obtain ⟨a, vs, e1, e2, hi⟩ := lstU_of E t (show lstU δ (.lst ys) = some xs from h)
    exact ⟨a, vs, e1, .inr e2, hi⟩
  | rdr ls n => cases h
  | bor i =>
    obtain ⟨a, vs, e1, e2, hi⟩ := lstU_of E t (show lstU δ (.bor i) = some xs from h)
    exact ⟨a, vs, e1, .inr e2, hi⟩
theorem seqU_sq (E : EnvOk K σ H δ) (t : VT K σ H0 H δ v w) (h : seqU δ w = some xs) : ∃ a vs, v = .ref a ∧ (SqL K H a vs ∨ SqT K H a vs) ∧ Iss K H vs xs := by
  obtain ⟨a, vs, e1, e2, hi⟩ := seqU_of E t h
  rcases e2 with ⟨_, e2⟩ | e2
  · exact ⟨a, vs, e1, .inr e2.sq, hi⟩
  · exact ⟨a, vs, e1, .inl (.of e2), hi⟩
end
theorem atI_iss {K : PySem.W.Frag} {H : Hp} {vs : List V} {ds : List D} {i : Int} {d : D} (h : Iss K H vs ds) (e : atI ds i = some d) : ∃ v, atI vs i = some v ∧ Is K H v d := by
  unfold atI at e ⊢
  rw [h.length]
  cases q : ixN ds.length i with
  | none => rw [q] at e; cases e
  | some j =>
    rw [q] at e
    exact h.get e
/-- x[i] -/
@[simp] def vIx : V2 := fun x y δ R => match y with
  | .d (.int i) => (match x with
    | .d (.str l) => l.length ≤ sizeLine ∧ (match atI l i with
      | some c => R (.d (.str [c])) δ
      | none => False)
    | x => (match seqU δ x with
      | some xs => (match atI xs i with
        | some e => R (.d e) δ
        | none => False)
      | none => False))
  | _ => False
theorem lift_ix {K : PySem.W.Frag} : Lift2 K (rIx K) vIx := by
  intro σ δ H H0 x y w1 w2 R Q E _ t1 t2 hd q
  cases w2 with
  | d d2 =>
    cases d2 with
    | int i =>
      cases (show Is K H y (.int i) from t2)
      have seq : ∀ {w : U} (t : VT K σ H0 H δ x w) {xs : List D} {e : D}, seqU δ w = some xs → atI xs i = some e → R (.d e) δ → rIx K x (.int i) H Q := fun {w} t {xs e} h1 h2 h3 => by
        obtain ⟨a, vs, rfl, hq, hi⟩ := seqU_sq E t h1
        obtain ⟨v, e1, hv⟩ := atI_iss hi h2
        have fin := q _ _ v H h3 (AR.refl E) hv
        rcases hq with hq | hq
        · exact .inl ⟨a, vs, i, v, rfl, rfl, hq, e1, fin⟩
        · exact .inr (.inl ⟨a, vs, i, v, rfl, rfl, hq, e1, fin⟩)
      have go : ∀ {w : U} (t : VT K σ H0 H δ x w), (match seqU δ w with
          | some xs => (match atI xs i with
            | some e => R (.d e) δ
            | none => False)
          | none => False) → rIx K x (.int i) H Q := fun {w} t h => by
        cases e1 : seqU δ w with
        | none => simp only [e1] at h
        | some xs =>
          cases e2 : atI xs i with
          | none => simp only [e1, e2] at h
          | some e =>
            simp only [e1, e2] at h
            exact seq t e1 e2 h
      cases w1 with
      | d d1 =>
        cases d1 with
        | str l =>
          obtain ⟨hz, h⟩ := (show l.length ≤ sizeLine ∧ (match atI l i with
            | some c => R (.d (.str [c])) δ
            | none => False) from hd)
          cases e1 : atI l i with
          | none => simp only [e1] at h
          | some c =>
            simp only [e1] at h
            cases (show Is K H x (.str l) from t1)
            exact .inr (.inr ⟨S l, i, c, rfl, rfl, by rw [S_len]; exact hz, by rw [S_tl]; exact e1, q _ _ _ H h (AR.refl E) (Is.str [c])⟩)
        | _ => exact go t1 hd
      | _ => exact go t1 hd
    | _ => exact hd.elim
  | _ => exact hd.elim
/-- a text in a sequence of texts -/
@[simp] def strsOf : List D → Option (List Cs)
  | [] => some []
  | .str x :: r => (strsOf r).map (x :: ·)
  | _ :: _ => none
theorem strsOf_iss {K : PySem.W.Frag} {H : Hp} : ∀ {ds : List D} {vs : List V} {ls : List Cs}, Iss K H vs ds → strsOf ds = some ls → vs = ls.map fun l => V.str (S l)
  | [], _, _, h, e => by cases h; cases e; rfl
  | d :: r, _, ls, h, e => by
    cases h with
    | cons h1 h2 =>
      cases d with
      | str x =>
        cases q : strsOf r with
        | none => simp only [strsOf, q] at e; cases e
        | some l =>
          simp only [strsOf, q] at e
          cases e
          cases h1
          rw [strsOf_iss h2 q]
          rfl
      | _ => cases e
theorem strsOf_map (ls : List Cs) : strsOf (ls.map D.str) = some ls := by
  induction ls with
  | nil => rfl
  | cons x r ih => simp only [List.map_cons, strsOf, ih]; rfl
theorem all_flat (ls : List Cs) : (ls.map fun l => V.str (S l)).all flatV = true := by
  rw [List.all_map]
  exact List.all_eq_true.mpr fun _ _ => rfl
theorem inV_strs (x : Cs) (ls : List Cs) : inV (V.str (S x)) (ls.map fun l => V.str (S l)) = decide (x ∈ ls) := by
  unfold inV
  induction ls with
  | nil => rfl
  | cons y r ih =>
    rw [List.map_cons, List.any_cons, ih]
    show ((S y == S x) || decide (x ∈ r)) = _
    by_cases h : x = y
    · subst h
      simp
    · have : (S y == S x) = false := by
        rw [beq_eq_false_iff_ne]
        exact fun z => h (S_inj z).symm
      rw [this]
      simp [h]
@[simp] def vInS (neg : Bool) : V2 := fun x y δ R => match x with
  | .d (.str a) => (match (seqU δ y).bind strsOf with
    | some ls => R (.d (.bl (if neg then !decide (a ∈ ls) else decide (a ∈ ls)))) δ
    | none => False)
  | _ => False
theorem lift_inS {K : PySem.W.Frag} {neg : Bool} : Lift2 K (rIn K neg) (vInS neg) := by
  intro σ δ H H0 x y w1 w2 R Q E _ t1 t2 hd q
  cases w1 with
  | d d1 =>
    cases d1 with
    | str a =>
      cases (show Is K H x (.str a) from t1)
      have hd : (match (seqU δ w2).bind strsOf with
        | some ls => R (.d (.bl (if neg then !decide (a ∈ ls) else decide (a ∈ ls)))) δ
        | none => False) := hd
      cases e1 : seqU δ w2 with
      | none => simp only [e1, Option.bind_none] at hd
      | some xs =>
        cases e2 : strsOf xs with
        | none => simp only [e1, Option.bind_some, e2] at hd
        | some ls =>
          simp only [e1, Option.bind_some, e2] at hd
          obtain ⟨p, vs, rfl, hq, hi⟩ := seqU_sq E t2 e1
          have ev := strsOf_iss hi e2
          subst ev
          refine ⟨p, _, rfl, hq, rfl, all_flat ls, ?_⟩
          rw [inV_strs]
          exact q _ _ _ H hd (AR.refl E) (Is.bl _)
    | _ => exact hd.elim
  | _ => exact hd.elim

/-! ### argument lists, displays -/
@[simp] def dNil : DA := fun δ R => R [] δ
@[simp] def dCons (a : DE) (b : DA) : DA := fun δ R => a δ fun w δ1 => b δ1 fun ws δ2 => R (w :: ws) δ2
@[simp] def allD : List U → Option (List D)
  | [] => some []
  | .d x :: r => (allD r).map (x :: ·)
  | _ :: _ => none
theorem allD_iss {K : PySem.W.Frag} {σ : St} {H0 H : Hp} {δ : DEnv} : ∀ {ws : List U} {vs : List V} {ds : List D}, Paired (VT K σ H0 H δ) vs ws → allD ws = some ds → Iss K H vs ds
  | [], _, _, h, e => by cases h; cases e; exact .nil
  | w :: r, _, ds, h, e => by
    cases h with
    | cons h1 h2 =>
      cases w with
      | d x =>
        cases q : allD r with
        | none => simp only [allD, q] at e; cases e
        | some l =>
          simp only [allD, q] at e
          cases e
          exact .cons h1 (allD_iss h2 q)
      | _ => cases e
theorem paired_carry {K : PySem.W.Frag} {σ : St} {H0 H1 H2 : Hp} {δ1 δ2 : DEnv} (E : EnvOk K σ H1 δ1) (a : AR K σ δ1 H1 δ2 H2) (hd : ∀ b, M σ δ1 b → H0 b ≠ none) : ∀ {vs : List V} {ws : List U}, Paired (VT K σ H0 H1 δ1) vs ws → Paired (VT K σ H0 H2 δ2) vs ws
  | _, _, .nil => .nil
  | _, _, .cons r t => .cons (r.carry E a hd) (paired_carry E a hd t)
theorem paired_back {K : PySem.W.Frag} {σ : St} {H0 H1 H2 : Hp} {δ2 : DEnv} (b : ∀ x, H1 x = none → H0 x = none) : ∀ {vs : List V} {ws : List U}, Paired (VT K σ H1 H2 δ2) vs ws → Paired (VT K σ H0 H2 δ2) vs ws
  | _, _, .nil => .nil
  | _, _, .cons r t => .cons (r.back b) (paired_back b t)
section
variable {X : Cx} {e : Expr} {es : List Expr} {de : DE} {da : DA} {pos : Pos}
theorem da_nil : PA X [] (upA X.K dNil) := PA.imp pa_nil fun _ _ _ ⟨δ, R, E, h, q⟩ => q _ _ _ _ h (AR.refl E) .nil
theorem da_cons (ha : PE X e (up X.K de)) (hr : PA X es (upA X.K da)) (hs : starEach (e :: es) X.env = (false, eval e X.env) :: starEach es X.env := by rfl) : PA X (e :: es) (upA X.K (dCons de da)) :=
  PA.imp (pa_cons ha hr hs) fun _ _ _ ⟨δ, R, E, h, q⟩ => ⟨δ, _, E, h, fun w δ1 v H1 h1 a1 t1 => ⟨δ1, _, a1.env, h1, fun ws δ2 vs H2 h2 a2 t2 =>
    q _ _ _ _ h2 (a1.trans a2) (.cons (t1.carry a1.env a2 (a1.own_old E)) (paired_back a1.st.dom t2))⟩⟩
/-- (a, b, ..) -/
@[simp] def dTup (da : DA) : DE := fun δ R => da δ fun ws δ1 => match allD ws with
  | some ds => ds.length ≤ sizeLine ∧ R (.d (.tup ds)) δ1
  | none => False
theorem is_new {K : PySem.W.Frag} {H : Hp} {p : Addr} {o : Obj} {vs : List V} {ds : List D} (hp : H p = none) (ho : Pl o) (h : Iss K H vs ds) : Is K (upd H p (.frz o (.tup vs))) (.ref p) (.tup ds) :=
  .tup (.inl ⟨o, upd_same, ho⟩) ((Stp.new (m := fun _ => False) hp).iss (fun _ z => z.elim) h)
theorem lst_new {K : PySem.W.Frag} {H H0 : Hp} {σ : St} {δ : DEnv} {p : Addr} {vs : List V} {ds : List D} (hp : H p = none) (h0 : H0 p = none) (h : Iss K H vs ds) : VT K σ H0 (upd H p (.lst vs)) δ (.ref p) (.lst ds) :=
  ⟨⟨p, vs, rfl, upd_same, (Stp.new (m := fun _ => False) hp).iss (fun _ z => z.elim) h⟩, fun b z => by
    have z : b = p := z
    subst z
    exact h0⟩
theorem de_tup {x1} (h : PA X es (upA X.K da)) : PE X (.Tuple es x1 pos) (up X.K (dTup da)) := PE.imp (pe_tupF h) fun σ H Q ⟨δ, R, E, h, q⟩ => ⟨δ, _, E, h, fun ws δ1 vs H1 h1 a1 t1 => by
  cases e : allD ws with
  | none => simp only [e] at h1
  | some ds =>
    simp only [e] at h1
    obtain ⟨hz, h1⟩ := h1
    have hi := allD_iss t1 e
    exact ⟨by rw [hi.length]; exact hz, fun p o hp ho => q _ _ _ _ h1 (a1.trans (AR.new a1.env hp)) (is_new hp ho hi)⟩⟩
@[simp] def dLst (da : DA) : DE := fun δ R => da δ fun ws δ1 => match allD ws with
  | some ds => ds.length ≤ sizeLine ∧ R (.lst ds) δ1
  | none => False
theorem de_lst (h : PA X es (upA X.K da)) : PE X (.List es pos) (up X.K (dLst da)) := PE.imp (pe_lst h) fun σ H Q ⟨δ, R, E, h, q⟩ => ⟨δ, _, E, h, fun ws δ1 vs H1 h1 a1 t1 => by
  cases e : allD ws with
  | none => simp only [e] at h1
  | some ds =>
    simp only [e] at h1
    obtain ⟨hz, h1⟩ := h1
    have hi := allD_iss t1 e
    exact ⟨by rw [hi.length]; exact hz, fun p hp => q _ _ _ _ h1 (a1.trans (AR.new a1.env hp)) (lst_new hp (a1.st.dom p hp) hi)⟩⟩
end

/-! ### slices -/
abbrev DP := DEnv → (Option Int → DEnv → Prop) → Prop
def upP (K : PySem.W.Frag) (dp : DP) : TO := fun σ H Q => ∃ δ R, EnvOk K σ H δ ∧ dp δ R ∧ ∀ o δ' H', R o δ' → AR K σ δ H δ' H' → Q o H'
@[simp] def dNoP : DP := fun δ R => R none δ
@[simp] def dPart (de : DE) : DP := fun δ R => de δ fun w δ1 => match w with
  | .d (.int i) => R (some i) δ1
  | _ => False
theorem PO.imp {X : Cx} {e : Option Expr} {t t' : TO} (h : PO X e t) (i : ∀ σ H Q, t' σ H Q → t σ H Q) : PO X e t' := ⟨fun pins s σ H Q I q => h.run pins s σ H Q I (i _ _ _ q)⟩
abbrev VS := U → Option Int → Option Int → DEnv → (U → DEnv → Prop) → Prop
@[simp] def dSl (r : VS) (a : DE) (l h : DP) : DE := fun δ R => a δ fun x δ1 => l δ1 fun lo δ2 => h δ2 fun hi δ3 => r x lo hi δ3 R
def LiftS (K : PySem.W.Frag) (r : V → Option Int → Option Int → Hp → VK → Prop) (dr : VS) : Prop := ∀ (σ : St) (δ : DEnv) (H H0 : Hp) (x : V) (w : U) (lo hi : Option Int) (R : U → DEnv → Prop) (Q : VK), EnvOk K σ H δ → (∀ b, M σ δ b → H0 b ≠ none) → VT K σ H0 H δ x w →
  dr w lo hi δ R → (∀ w δ' v H', R w δ' → AR K σ δ H δ' H' → VT K σ H H' δ' v w → Q v H') → r x lo hi H Q
def cutD {α : Type} (xs : List α) (lo hi : Option Int) : List α := (xs.drop (HT.sIx xs.length 0 lo)).take (HT.sIx xs.length xs.length hi - HT.sIx xs.length 0 lo)
section
variable {X : Cx} {e : Expr} {lo hi : Option Expr} {de : DE} {dl dh : DP} {pos p2 : Pos}
theorem do_none : PO X none (upP X.K dNoP) := PO.imp po_none fun _ _ _ ⟨δ, R, E, h, q⟩ => q _ _ _ h (AR.refl E)
theorem do_some {e : Expr} (h : PE X e (up X.K de)) : PO X (some e) (upP X.K (dPart de)) := PO.imp (po_some h) fun _ _ _ ⟨δ, R, E, h, q⟩ => ⟨δ, _, E, h, fun w δ1 v H1 h1 a1 t1 => by
  cases w with
  | d x =>
    cases x with
    | int i =>
      cases (show Is X.K H1 v (.int i) from t1)
      exact ⟨i, rfl, q _ _ _ h1 a1⟩
    | _ => exact h1.elim
  | _ => exact h1.elim⟩
theorem de_slice {r : V → Option Int → Option Int → Hp → VK → Prop} {dr : VS} (hr : SlR X r) (l : LiftS X.K r dr) (he : PE X e (up X.K de)) (hl : PO X lo (upP X.K dl)) (hu : PO X hi (upP X.K dh)) : PE X (.Subscript e (.Slice lo hi none p2) pos) (up X.K (dSl dr de dl dh)) :=
  PE.imp (pe_slice hr he hl hu) fun σ H Q ⟨δ, R, E, h, q⟩ => ⟨δ, _, E, h, fun x δ1 v1 H1 h1 a1 t1 => ⟨δ1, _, a1.env, h1, fun lo δ2 H2 h2 a2 => ⟨δ2, _, a2.env, h2, fun hi δ3 H3 h3 a3 =>
    l σ δ3 H3 H v1 x lo hi R Q a3.env (((a1.trans a2).trans a3).own_old E) ((t1.carry a1.env a2 (a1.own_old E)).carry a2.env a3 ((a1.trans a2).own_old E)) h3 (up_then ((a1.trans a2).trans a3) E q)⟩⟩⟩
end
theorem cutS_S (l : Cs) (lo hi : Option Int) : cutS (S l) lo hi = S (cutD l lo hi) := by
  unfold cutS cutD
  rw [S_tl, S_len]
@[simp] def vSlS : VS := fun x lo hi δ R => match x with
  | .d (.str l) => l.length ≤ sizeLine ∧ R (.d (.str (cutD l lo hi))) δ
  | _ => False
theorem lift_slS {K : PySem.W.Frag} : LiftS K rSlS vSlS := by
  intro σ δ H H0 x w lo hi R Q E _ t hd q
  cases w with
  | d d1 =>
    cases d1 with
    | str l =>
      obtain ⟨hz, h⟩ := hd
      cases (show Is K H x (.str l) from t)
      refine ⟨S l, rfl, by rw [S_len]; exact hz, ?_⟩
      rw [cutS_S]
      exact q _ _ _ H h (AR.refl E) (Is.str _)
    | _ => exact hd.elim
  | _ => exact hd.elim
theorem cutV_iss {K : PySem.W.Frag} {H : Hp} {vs : List V} {ds : List D} (h : Iss K H vs ds) (lo hi : Option Int) : Iss K H (cutV vs lo hi) (cutD ds lo hi) := by
  unfold cutV cutD
  rw [h.length]
  exact (h.drop _).take _
@[simp] def vSlT : VS := fun x lo hi δ R => match x with
  | .d (.tup xs) => ¬ (HT.sIx xs.length 0 lo = 0 ∧ HT.sIx xs.length xs.length hi = xs.length) ∧ R (.d (.tup (cutD xs lo hi))) δ
  | _ => False
theorem lift_slT {K : PySem.W.Frag} : LiftS K (rSlTF K) vSlT := by
  intro σ δ H H0 x w lo hi R Q E _ t hd q
  cases w with
  | d d1 =>
    cases d1 with
    | tup xs =>
      obtain ⟨hz, h⟩ := hd
      cases (show Is K H x (.tup xs) from t) with
      | tup ht hi' => exact ⟨_, _, rfl, ht.sq, by rw [hi'.length]; exact hz, fun p o hp ho => q _ _ _ _ h (AR.new E hp) (is_new hp ho (cutV_iss hi' lo hi))⟩
    | _ => exact hd.elim
  | _ => exact hd.elim
@[simp] def vSlL : VS := fun x lo hi δ R => match lstU δ x with
  | some xs => R (.lst (cutD xs lo hi)) δ
  | none => False
theorem lift_slL {K : PySem.W.Frag} : LiftS K (rSlL K) vSlL := by
  intro σ δ H H0 x w lo hi R Q E _ t hd q
  unfold vSlL at hd
  cases e : lstU δ w with
  | none => simp only [e] at hd
  | some xs =>
    simp only [e] at hd
    obtain ⟨a, vs, rfl, ha, hi'⟩ := lstU_of E t e
    exact ⟨a, vs, rfl, .of ha, fun p hp => q _ _ _ _ hd (AR.new E hp) (lst_new hp hp (cutV_iss hi' lo hi))⟩

/-! ### + of sequences -/
@[simp] def vCatT : V2 := fun x y δ R => match x, y with
  | .d (.tup xs), .d (.tup ys) => xs ≠ [] ∧ xs.length + ys.length ≤ sizeLine ∧ R (.d (.tup (xs ++ ys))) δ
  | _, _ => False
theorem lift_catT {K : PySem.W.Frag} : Lift2 K (rCatTF K) vCatT := by
  intro σ δ H H0 x y w1 w2 R Q E _ t1 t2 hd q
  cases w1 with
  | d d1 =>
    cases d1 with
    | tup xs =>
      cases w2 with
      | d d2 =>
        cases d2 with
        | tup ys =>
          obtain ⟨hx, hz, h⟩ := (show xs ≠ [] ∧ xs.length + ys.length ≤ sizeLine ∧ R (.d (.tup (xs ++ ys))) δ from hd)
          cases (show Is K H x (.tup xs) from t1) with
          | @tup a vs _ ht hi =>
            cases (show Is K H y (.tup ys) from t2) with
            | @tup b us _ ht2 hi2 =>
              refine ⟨a, b, vs, us, rfl, rfl, ht.sq, ht2.sq, fun z => hx ?_, by rw [hi.length, hi2.length]; exact hz, fun z => ?_, fun z p o hp ho => q _ _ _ _ h (AR.new E hp) (is_new hp ho (hi.append hi2))⟩
              · subst z; cases hi; rfl
              · subst z
                cases hi2
                rw [List.append_nil] at h
                exact q _ _ _ _ h (AR.refl E) (Is.tup ht hi)
        | _ => exact hd.elim
      | _ => exact hd.elim
    | _ => cases w2 <;> exact hd.elim
  | _ => cases w2 <;> exact hd.elim
@[simp] def vCatL : V2 := fun x y δ R => match lstU δ x, lstU δ y with
  | some xs, some ys => xs.length + ys.length ≤ sizeLine ∧ R (.lst (xs ++ ys)) δ
  | _, _ => False
theorem lift_catL {K : PySem.W.Frag} : Lift2 K rCat vCatL := by
  intro σ δ H H0 x y w1 w2 R Q E _ t1 t2 hd q
  unfold vCatL at hd
  cases e1 : lstU δ w1 with
  | none => simp only [e1] at hd
  | some xs =>
    cases e2 : lstU δ w2 with
    | none => simp only [e1, e2] at hd
    | some ys =>
      simp only [e1, e2] at hd
      obtain ⟨hz, h⟩ := hd
      obtain ⟨a, vs, rfl, ha, hi⟩ := lstU_of E t1 e1
      obtain ⟨b, us, rfl, hb, hi2⟩ := lstU_of E t2 e2
      exact ⟨a, b, vs, us, rfl, rfl, ha, hb, by rw [hi.length, hi2.length]; exact hz, fun p hp => q _ _ _ _ h (AR.new E hp) (lst_new hp hp (hi.append hi2))⟩
/-- + by the kinds of its operands -/
theorem OpR.or2 {X : Cx} {f : Value → Value → Sem Value} {r r' : R2} (h : OpR X f r) (h' : OpR X f r') : OpR X f (fun x y H Q => r x y H Q ∨ r' x y H Q) := OpR.or h h'

/-! ### built-in functions -/
abbrev VA := List U → DEnv → (U → DEnv → Prop) → Prop
@[simp] def dCB (dr : VA) (da : DA) : DE := fun δ R => da δ fun ws δ1 => dr ws δ1 R
def LiftA (K : PySem.W.Frag) (r : List V → Hp → VK → Prop) (dr : VA) : Prop := ∀ (σ : St) (δ : DEnv) (H H0 : Hp) (vs : List V) (ws : List U) (R : U → DEnv → Prop) (Q : VK), EnvOk K σ H δ → (∀ b, M σ δ b → H0 b ≠ none) → Paired (VT K σ H0 H δ) vs ws →
  dr ws δ R → (∀ w δ' v H', R w δ' → AR K σ δ H δ' H' → VT K σ H H' δ' v w → Q v H') → r vs H Q
theorem upCB {K : PySem.W.Frag} {r : List V → Hp → VK → Prop} {dr : VA} (l : LiftA K r dr) {da : DA} {σ : St} {H : Hp} {Q : VK} (h : up K (dCB dr da) σ H Q) : tCB r (upA K da) σ H Q := by
  obtain ⟨δ, R, E, h, q⟩ := h
  exact ⟨δ, _, E, h, fun ws δ1 vs H1 h1 a1 t1 => l σ δ1 H1 H vs ws R Q a1.env (a1.own_old E) t1 h1 (up_then a1 E q)⟩
section
variable {X : Cx} {x : Str} {p pos : Pos} {e : Expr} {es : List Expr} {da : DA} {id T : String} {r : List V → Hp → VK → Prop} {dr : VA}
theorem de_callB (hc : CallR X (.builtin id) r) (l : LiftA X.K r dr) (hg : Gl X x) (hm : X.mg x = none) (hv : bootBuiltins x = some (.builtin id)) (ha : PA X (e :: es) (upA X.K da)) (hn : x ≠ "__name__" := by decide) (hdb : (x == ("__debug__" : Str)) = false := by decide)
    (he : starEach (e :: es) X.env = (false, eval e X.env) :: starEach es X.env := by rfl) (hpl : (backTo pos (starEach es X.env)).any (·.1) = false := by rfl) : PE X (.Call (.Name x p) (e :: es) [] pos) (up X.K (dCB dr da)) :=
  PE.imp (pe_callB hc hg hm hv ha hn hdb he hpl) fun _ _ _ h => upCB l h
theorem de_callTy (hc : CallR X (.type T) r) (l : LiftA X.K r dr) (hg : Gl X x) (hm : X.mg x = none) (hv : bootBuiltins x = some (.type T)) (ha : PA X (e :: es) (upA X.K da)) (hn : x ≠ "__name__" := by decide) (hdb : (x == ("__debug__" : Str)) = false := by decide)
    (he : starEach (e :: es) X.env = (false, eval e X.env) :: starEach es X.env := by rfl) (hpl : (backTo pos (starEach es X.env)).any (·.1) = false := by rfl) : PE X (.Call (.Name x p) (e :: es) [] pos) (up X.K (dCB dr da)) :=
  PE.imp (pe_callTy hc hg hm hv ha hn hdb he hpl) fun _ _ _ h => upCB l h
end
theorem paired1 {α β : Type} {F : α → β → Prop} {vs : List α} {w : β} (h : Paired F vs [w]) : ∃ v, vs = [v] ∧ F v w := by
  cases h with
  | cons r t => cases t; exact ⟨_, rfl, r⟩
theorem paired2 {α β : Type} {F : α → β → Prop} {vs : List α} {w u : β} (h : Paired F vs [w, u]) : ∃ v x, vs = [v, x] ∧ F v w ∧ F x u := by
  cases h with
  | cons r t => cases t with
    | cons r2 t2 => cases t2; exact ⟨_, _, rfl, r, r2⟩
/-- one argument -/
@[simp] def vOne (f : U → DEnv → (U → DEnv → Prop) → Prop) : VA := fun ws δ R => match ws with
  | [w] => f w δ R
  | _ => False
theorem lift1 {K : PySem.W.Frag} {r : List V → Hp → VK → Prop} {f : U → DEnv → (U → DEnv → Prop) → Prop}
    (h : ∀ (σ : St) (δ : DEnv) (H H0 : Hp) (v : V) (w : U) (R : U → DEnv → Prop) (Q : VK), EnvOk K σ H δ → (∀ b, M σ δ b → H0 b ≠ none) → VT K σ H0 H δ v w → f w δ R → (∀ w δ' v H', R w δ' → AR K σ δ H δ' H' → VT K σ H H' δ' v w → Q v H') → r [v] H Q) : LiftA K r (vOne f) := by
  intro σ δ H H0 vs ws R Q E ho t hd q
  match ws, t, hd with
  | [w], t, hd =>
    obtain ⟨v, rfl, t1⟩ := paired1 t
    exact h σ δ H H0 v w R Q E ho t1 hd q
  | [], t, hd => exact hd.elim
  | _ :: _ :: _, t, hd => exact hd.elim
/-- len(x) -/
@[simp] def fLen : U → DEnv → (U → DEnv → Prop) → Prop := fun w δ R => match w with
  | .d (.str l) => l.length ≤ sizeLine ∧ R (.d (.int l.length)) δ
  | w => (match seqU δ w with
    | some xs => R (.d (.int xs.length)) δ
    | none => False)
theorem lift_len {K : PySem.W.Frag} : LiftA K (fun xs H Q => ∃ x n, xs = [x] ∧ LenV K x H n ∧ Q (.int n) H) (vOne fLen) := lift1 fun σ δ H H0 v w R Q E _ t hd q => by
  have go : ∀ {w : U} {v : V}, VT K σ H0 H δ v w → (match seqU δ w with
      | some xs => R (.d (.int xs.length)) δ
      | none => False) → ∃ x n, [v] = [x] ∧ LenV K x H n ∧ Q (.int n) H := fun {w v} t h => by
    cases e : seqU δ w with
    | none => simp only [e] at h
    | some xs =>
      simp only [e] at h
      obtain ⟨a, us, rfl, hq, hi⟩ := seqU_sq E t e
      refine ⟨_, xs.length, rfl, ?_, q _ _ _ H h (AR.refl E) (Is.int _)⟩
      rcases hq with hq | hq
      · exact .inl ⟨us, hq, hi.length.symm⟩
      · exact .inr ⟨us, hq, hi.length.symm⟩
  cases w with
  | d x =>
    cases x with
    | str l =>
      obtain ⟨hz, h⟩ := hd
      cases (show Is K H v (.str l) from t)
      exact ⟨_, l.length, rfl, ⟨by rw [S_len]; exact hz, by rw [S_len]⟩, q _ _ _ H h (AR.refl E) (Is.int _)⟩
    | _ => exact go t hd
  | _ => exact go t hd
/-- all(list of bools) -/
@[simp] def bsOf : List D → Option (List Bool)
  | [] => some []
  | .bl x :: r => (bsOf r).map (x :: ·)
  | _ :: _ => none
theorem bsOf_iss {K : PySem.W.Frag} {H : Hp} : ∀ {ds : List D} {vs : List V} {ls : List Bool}, Iss K H vs ds → bsOf ds = some ls → vs = ls.map V.bl
  | [], _, _, h, e => by cases h; cases e; rfl
  | d :: r, _, ls, h, e => by
    cases h with
    | cons h1 h2 =>
      cases d with
      | bl x =>
        cases q : bsOf r with
        | none => simp only [bsOf, q] at e; cases e
        | some l =>
          simp only [bsOf, q] at e
          cases e
          cases h1
          rw [bsOf_iss h2 q]
          rfl
      | _ => cases e
theorem bsOf_map {α : Type} (f : α → Bool) (xs : List α) : bsOf (xs.map fun x => D.bl (f x)) = some (xs.map f) := by
  induction xs with
  | nil => rfl
  | cons x r ih => simp only [List.map_cons, bsOf, ih]; rfl
@[simp] def fAll : U → DEnv → (U → DEnv → Prop) → Prop := fun w δ R => match (lstU δ w).bind bsOf with
  | some bs => R (.d (.bl (bs.all id))) δ
  | none => False
theorem lift_all {K : PySem.W.Frag} : LiftA K (rAll K) (vOne fAll) := lift1 fun σ δ H H0 v w R Q E _ t hd q => by
  unfold fAll at hd
  cases e : lstU δ w with
  | none => simp only [e, Option.bind_none] at hd
  | some xs =>
    cases e2 : bsOf xs with
    | none => simp only [e, Option.bind_some, e2] at hd
    | some bs =>
      simp only [e, Option.bind_some, e2] at hd
      obtain ⟨a, us, rfl, ha, hi⟩ := lstU_of E t e
      have ev := bsOf_iss hi e2
      subst ev
      exact ⟨a, bs, rfl, .of ha, q _ _ _ H hd (AR.refl E) (Is.bl _)⟩
/-- tuple(list) -/
@[simp] def fTuple : U → DEnv → (U → DEnv → Prop) → Prop := fun w δ R => match lstU δ w with
  | some xs => R (.d (.tup xs)) δ
  | none => False
theorem lift_tuple {K : PySem.W.Frag} : LiftA K (fun xs H Q => ∃ p ys, xs = [.ref p] ∧ SqL K H p ys ∧ ∀ l o, H l = none → Pl o → Q (.ref l) (upd H l (.frz o (.tup ys)))) (vOne fTuple) := lift1 fun σ δ H H0 v w R Q E _ t hd q => by
  unfold fTuple at hd
  cases e : lstU δ w with
  | none => simp only [e] at hd
  | some xs =>
    simp only [e] at hd
    obtain ⟨a, us, rfl, ha, hi⟩ := lstU_of E t e
    exact ⟨a, us, rfl, .of ha, fun l o hl ho => q _ _ _ _ hd (AR.new E hl) (is_new hl ho hi)⟩
/-- str(int), int(int), int(bool), min(int, int) -/
def numI (i : Int) : Cs := (Str.ofString (toString i)).cps.toList
@[simp] def fStrI : U → DEnv → (U → DEnv → Prop) → Prop := fun w δ R => match w with
  | .d (.int i) => i.natAbs.log2 < 1920 ∧ R (.d (.str (numI i))) δ
  | _ => False
theorem lift_strI {K : PySem.W.Frag} : LiftA K (fun xs H Q => ∃ i, xs = [.int i] ∧ i.natAbs.log2 < 1920 ∧ Q (.str (Str.ofString (toString i))) H) (vOne fStrI) := lift1 fun σ δ H H0 v w R Q E _ t hd q => by
  cases w with
  | d x =>
    cases x with
    | int i =>
      cases (show Is K H v (.int i) from t)
      refine ⟨i, rfl, hd.1, q _ _ _ H hd.2 (AR.refl E) ?_⟩
      have := Is.str (K := K) (H := H) (numI i)
      rw [show S (numI i) = Str.ofString (toString i) from S_of _] at this
      exact this
    | _ => exact hd.elim
  | _ => exact hd.elim
@[simp] def fInt1 : U → DEnv → (U → DEnv → Prop) → Prop := fun w δ R => match w with
  | .d (.int i) => R (.d (.int i)) δ
  | .d (.bl k) => R (.d (.int (if k then 1 else 0))) δ
  | _ => False
theorem lift_int1 {K : PySem.W.Frag} : LiftA K (fun xs H Q => (∃ i, xs = [.int i] ∧ Q (.int i) H) ∨ ∃ k, xs = [.bl k] ∧ Q (.int (if k then 1 else 0)) H) (vOne fInt1) := lift1 fun σ δ H H0 v w R Q E _ t hd q => by
  cases w with
  | d x =>
    cases x with
    | int i =>
      cases (show Is K H v (.int i) from t)
      exact .inl ⟨i, rfl, q _ _ _ H hd (AR.refl E) (Is.int _)⟩
    | bl i =>
      cases (show Is K H v (.bl i) from t)
      exact .inr ⟨i, rfl, q _ _ _ H hd (AR.refl E) (Is.int _)⟩
    | _ => exact hd.elim
  | _ => exact hd.elim
@[simp] def v2I (f : Int → Int → Int) : VA := fun ws δ R => ∃ i j, ws = [.d (.int i), .d (.int j)] ∧ R (.d (.int (f i j))) δ
theorem lift_min {K : PySem.W.Frag} : LiftA K (fun xs H Q => ∃ i j, xs = [.int i, .int j] ∧ Q (.int (if j < i then j else i)) H) (v2I fun i j => if j < i then j else i) := by
  intro σ δ H H0 vs ws R Q E _ t hd q
  obtain ⟨i, j, rfl, h⟩ := hd
  obtain ⟨v, x, rfl, t1, t2⟩ := paired2 t
  cases (show Is K H v (.int i) from t1)
  cases (show Is K H x (.int j) from t2)
  exact ⟨i, j, rfl, q _ _ _ H h (AR.refl E) (Is.int _)⟩
end Ib
set_option Elab.async false
set_option linter.all false
set_option autoImplicit false
set_option maxRecDepth 100000
set_option maxHeartbeats 4000000
/-! Ib3: isinstance, methods, own lists changed, list(text), calls of defs. -/
namespace Ib
open PySem PySem.Spec PyProof.Rows L2 TL
variable [Tabl]

/-! ### isinstance -/
def dTy : D → String
  | .non => "NoneType"
  | .bl _ => "bool"
  | .int _ => "int"
  | .str _ => "str"
  | .tup _ => "tuple"
@[simp] def isStr : D → Bool
  | .str _ => true
  | _ => false
@[simp] def isTup : D → Bool
  | .tup _ => true
  | _ => false
@[simp] def isInt : D → Bool
  | .int _ => true
  | .bl _ => true
  | _ => false
@[simp] def isBl : D → Bool
  | .bl _ => true
  | _ => false
theorem kit_isStr : ∀ d, kitB (dTy d) "str" = some (isStr d)
  | .non => by decide +kernel
  | .bl _ => by show kitB "bool" "str" = some false; decide +kernel
  | .int _ => by show kitB "int" "str" = some false; decide +kernel
  | .str _ => by show kitB "str" "str" = some true; decide +kernel
  | .tup _ => by show kitB "tuple" "str" = some false; decide +kernel
theorem kit_isTup : ∀ d, kitB (dTy d) "tuple" = some (isTup d)
  | .non => by decide +kernel
  | .bl _ => by show kitB "bool" "tuple" = some false; decide +kernel
  | .int _ => by show kitB "int" "tuple" = some false; decide +kernel
  | .str _ => by show kitB "str" "tuple" = some false; decide +kernel
  | .tup _ => by show kitB "tuple" "tuple" = some true; decide +kernel
theorem kit_isInt : ∀ d, kitB (dTy d) "int" = some (isInt d)
  | .non => by decide +kernel
  | .bl _ => by show kitB "bool" "int" = some true; decide +kernel
  | .int _ => by show kitB "int" "int" = some true; decide +kernel
  | .str _ => by show kitB "str" "int" = some false; decide +kernel
  | .tup _ => by show kitB "tuple" "int" = some false; decide +kernel
theorem kit_isBl : ∀ d, kitB (dTy d) "bool" = some (isBl d)
  | .non => by decide +kernel
  | .bl _ => by show kitB "bool" "bool" = some true; decide +kernel
  | .int _ => by show kitB "int" "bool" = some false; decide +kernel
  | .str _ => by show kitB "str" "bool" = some false; decide +kernel
  | .tup _ => by show kitB "tuple" "bool" = some false; decide +kernel
theorem tyX {K : PySem.W.Frag} {H : Hp} {v : V} {d : D} (h : Is K H v d) : TyX K H v (.type (dTy d)) := by
  cases h with
  | non => exact .base .non
  | bl b => exact .base (.bl b)
  | int i => exact .base (.int i)
  | str x => exact .base (.str _)
  | tup ht _ =>
    rcases ht with ⟨o, h, _⟩ | ⟨o, its, n, h1, h2, _⟩
    · exact .fTuple h
    · exact .kTuple h1 h2
/-- isinstance(x, T) -/
@[simp] def dIsi (f : D → Bool) (a : DE) : DE := fun δ R => a δ fun w δ1 => match w with
  | .d x => R (.d (.bl (f x))) δ1
  | _ => False
section
variable {X : Cx} {x y : Str} {p pos p2 : Pos} {e : Expr} {de : DE} {n : String} {f : D → Bool}
theorem de_isi (hk : ∀ d, kitB (dTy d) n = some (f d)) (hg : Gl X x) (hm : X.mg x = none) (hv : bootBuiltins x = some (.builtin "isinstance")) (hg2 : Gl X y) (hm2 : X.mg y = none) (hv2 : bootBuiltins y = some (.type n)) (ha : PE X e (up X.K de))
    (hn : x ≠ "__name__" := by decide) (hdb : (x == ("__debug__" : Str)) = false := by decide) (hn2 : y ≠ "__name__" := by decide) (hdb2 : (y == ("__debug__" : Str)) = false := by decide)
    (he : starEach [e, .Name y p2] X.env = (false, eval e X.env) :: starEach [.Name y p2] X.env := by rfl) (he2 : starEach [.Name y p2] X.env = (false, eval (.Name y p2) X.env) :: starEach [] X.env := by rfl) (hpl : (backTo pos (starEach [.Name y p2] X.env)).any (·.1) = false := by rfl) :
    PE X (.Call (.Name x p) [e, .Name y p2] [] pos) (up X.K (dIsi f de)) :=
  PE.imp (pe_callB call_isi hg hm hv (pa_cons ha (pa_cons (pe_bltn (v := .ty n) hg2 hm2 hv2 rfl hn2 hdb2) pa_nil he2) he) hn hdb he hpl) fun _ _ _ ⟨δ, R, E, h, q⟩ => ⟨δ, _, E, h, fun w δ1 v H1 h1 a1 t1 => by
    cases w with
    | d z => exact ⟨v, .ty n, .type (dTy z), .type n, f z, rfl, .ty n, tyX t1, kit_ty (hk z), q _ _ _ _ h1 a1 (Is.bl _)⟩
    | _ => exact h1.elim⟩
end

/-! ### methods -/
abbrev VM := U → List U → DEnv → (U → DEnv → Prop) → Prop
def LiftM (K : PySem.W.Frag) (r : V → List V → Hp → VK → Prop) (dr : VM) : Prop := ∀ (σ : St) (δ : DEnv) (H H0 : Hp) (x : V) (w : U) (vs : List V) (ws : List U) (R : U → DEnv → Prop) (Q : VK), EnvOk K σ H δ → (∀ b, M σ δ b → H0 b ≠ none) → VT K σ H0 H δ x w → Paired (VT K σ H0 H δ) vs ws →
  dr w ws δ R → (∀ w δ' v H', R w δ' → AR K σ δ H δ' H' → VT K σ H H' δ' v w → Q v H') → r x vs H Q
@[simp] def isStrU : U → Prop
  | .d (.str _) => True
  | _ => False
/-- a text's method -/
@[simp] def dMS (dr : VM) (o : DE) (da : DA) : DE := fun δ R => o δ fun w δ1 => isStrU w ∧ da δ1 fun ws δ2 => dr w ws δ2 R
/-- a list's method -/
@[simp] def dML (dr : VM) (o : DE) (da : DA) : DE := fun δ R => o δ fun w δ1 => (lstU δ1 w).isSome = true ∧ da δ1 fun ws δ2 => dr w ws δ2 R
section
variable {X : Cx} {o e : Expr} {es : List Expr} {do_ : DE} {da : DA} {name : Str} {id : String} {r : V → List V → Hp → VK → Prop} {dr : VM} {apos cpos : Pos}
theorem ty_str {K : PySem.W.Frag} {H : Hp} {v : V} {w : U} {σ : St} {H0 : Hp} {δ : DEnv} (t : VT K σ H0 H δ v w) (h : isStrU w) : tyV K "str" v H := by
  cases w with
  | d x =>
    cases x with
    | str l =>
      cases (show Is K H v (.str l) from t)
      rfl
    | _ => exact h.elim
  | _ => exact h.elim
theorem ty_lst {K : PySem.W.Frag} {H : Hp} {v : V} {w : U} {σ : St} {H0 : Hp} {δ : DEnv} (E : EnvOk K σ H δ) (t : VT K σ H0 H δ v w) (h : (lstU δ w).isSome = true) : tyV K "list" v H := by
  cases q : lstU δ w with
  | none => rw [q] at h; cases h
  | some xs =>
    obtain ⟨a, vs, rfl, ha, _⟩ := lstU_of E t q
    exact .inl ⟨rfl, _, .of ha⟩
theorem de_ms0 (pa : PlainAttrs "str") (slot : Slot "str" name id) (hty : typeOf (.builtin id) = pure (.type "method_descriptor")) (hm : MtR X id r) (l : LiftM X.K r dr) (ho : PE X o (up X.K do_))
    (hbase : attributeBase o name X.env (eval o X.env) = eval o X.env := by rfl) (hline : (apos.endLine == cpos.line) = true := by rfl) : PE X (.Call (.Attribute o name apos) [] [] cpos) (up X.K (dMS dr do_ dNil)) :=
  PE.imp (pe_bm0 pa slot hty hm ho hbase hline) fun σ H Q ⟨δ, R, E, h, q⟩ => ⟨δ, _, E, h, fun w δ1 v H1 h1 a1 t1 =>
    ⟨ty_str t1 h1.1, l σ δ1 H1 H v w [] [] R Q a1.env (a1.own_old E) t1 .nil h1.2 (up_then a1 E q)⟩⟩
theorem de_ms (pa : PlainAttrs "str") (slot : Slot "str" name id) (hty : typeOf (.builtin id) = pure (.type "method_descriptor")) (hm : MtR X id r) (l : LiftM X.K r dr) (ho : PE X o (up X.K do_)) (ha : PA X (e :: es) (upA X.K da))
    (hbase : attributeBase o name X.env (eval o X.env) = eval o X.env := by rfl)
    (hfew : ((backTo cpos (starEach (e :: es) X.env)).all (fun x => !x.1) && (backToKw cpos (keywordEach [] X.env)).all (fun x => x.1.isSome)
      && decide ((e :: es).length + ([] : List Keyword).length + (if ([] : List Keyword).isEmpty then 0 else 1) < 30)) = true := by rfl)
    (hline : (apos.endLine == cpos.line) = true := by rfl) (hs : starEach (e :: es) X.env = (false, eval e X.env) :: starEach es X.env := by rfl) (hplain : (backTo cpos (starEach es X.env)).any (·.1) = false := by rfl) :
    PE X (.Call (.Attribute o name apos) (e :: es) [] cpos) (up X.K (dMS dr do_ da)) :=
  PE.imp (pe_bm pa slot hty hm ho ha hbase hfew hline hs hplain) fun σ H Q ⟨δ, R, E, h, q⟩ => ⟨δ, _, E, h, fun w δ1 v H1 h1 a1 t1 => ⟨ty_str t1 h1.1, δ1, _, a1.env, h1.2, fun ws δ2 vs H2 h2 a2 t2 =>
    l σ δ2 H2 H v w vs ws R Q a2.env ((a1.trans a2).own_old E) (t1.carry a1.env a2 (a1.own_old E)) (paired_back a1.st.dom t2) h2 (up_then (a1.trans a2) E q)⟩⟩
theorem de_ml0 (slot : Slot "list" name id) (hty : typeOf (.builtin id) = pure (.type "method_descriptor")) (hm : MtR X id r) (l : LiftM X.K r dr) (ho : PE X o (up X.K do_))
    (hbase : attributeBase o name X.env (eval o X.env) = eval o X.env := by rfl) (hline : (apos.endLine == cpos.line) = true := by rfl) : PE X (.Call (.Attribute o name apos) [] [] cpos) (up X.K (dML dr do_ dNil)) :=
  PE.imp (pe_bm0 PySem.F.plainAttrs_list slot hty hm ho hbase hline) fun σ H Q ⟨δ, R, E, h, q⟩ => ⟨δ, _, E, h, fun w δ1 v H1 h1 a1 t1 =>
    ⟨ty_lst a1.env t1 h1.1, l σ δ1 H1 H v w [] [] R Q a1.env (a1.own_old E) t1 .nil h1.2 (up_then a1 E q)⟩⟩
theorem de_ml (slot : Slot "list" name id) (hty : typeOf (.builtin id) = pure (.type "method_descriptor")) (hm : MtR X id r) (l : LiftM X.K r dr) (ho : PE X o (up X.K do_)) (ha : PA X (e :: es) (upA X.K da))
    (hbase : attributeBase o name X.env (eval o X.env) = eval o X.env := by rfl)
    (hfew : ((backTo cpos (starEach (e :: es) X.env)).all (fun x => !x.1) && (backToKw cpos (keywordEach [] X.env)).all (fun x => x.1.isSome)
      && decide ((e :: es).length + ([] : List Keyword).length + (if ([] : List Keyword).isEmpty then 0 else 1) < 30)) = true := by rfl)
    (hline : (apos.endLine == cpos.line) = true := by rfl) (hs : starEach (e :: es) X.env = (false, eval e X.env) :: starEach es X.env := by rfl) (hplain : (backTo cpos (starEach es X.env)).any (·.1) = false := by rfl) :
    PE X (.Call (.Attribute o name apos) (e :: es) [] cpos) (up X.K (dML dr do_ da)) :=
  PE.imp (pe_bm PySem.F.plainAttrs_list slot hty hm ho ha hbase hfew hline hs hplain) fun σ H Q ⟨δ, R, E, h, q⟩ => ⟨δ, _, E, h, fun w δ1 v H1 h1 a1 t1 => ⟨ty_lst a1.env t1 h1.1, δ1, _, a1.env, h1.2, fun ws δ2 vs H2 h2 a2 t2 =>
    l σ δ2 H2 H v w vs ws R Q a2.env ((a1.trans a2).own_old E) (t1.carry a1.env a2 (a1.own_old E)) (paired_back a1.st.dom t2) h2 (up_then (a1.trans a2) E q)⟩⟩
end
/-! texts' methods -/
def tlS (x : Str) : Cs := x.cps.toList
theorem S_tlS (x : Str) : S (tlS x) = x := S_of x
@[simp] def mS0 (C : Cs → Prop) (f : Cs → Cs) : VM := fun w ws δ R => match w with
  | .d (.str l) => ws = [] ∧ C l ∧ R (.d (.str (f l))) δ
  | _ => False
theorem lift_mS0 {K : PySem.W.Frag} {C : Cs → Prop} {D' : Str → Prop} {g : Str → Str} (hC : ∀ l, C l → D' (S l)) : LiftM K (fun x xs H Q => ∃ a, x = .str a ∧ xs = [] ∧ D' a ∧ Q (.str (g a)) H) (mS0 C fun l => tlS (g (S l))) := by
  intro σ δ H H0 x w vs ws R Q E _ t1 t2 hd q
  cases w with
  | d d1 =>
    cases d1 with
    | str l =>
      obtain ⟨rfl, hc, h⟩ := (show ws = [] ∧ C l ∧ R (.d (.str (tlS (g (S l))))) δ from hd)
      cases t2
      cases (show Is K H x (.str l) from t1)
      have := Is.str (K := K) (H := H) (tlS (g (S l)))
      rw [S_tlS] at this
      exact ⟨S l, rfl, rfl, hC l hc, q _ _ _ H h (AR.refl E) this⟩
    | _ => exact hd.elim
  | _ => exact hd.elim
def lowC (l : Cs) : Cs := tlS (Txt.lower (S l))
def upC (l : Cs) : Cs := tlS (Txt.upper (S l))
abbrev mLower : VM := mS0 (fun l => l.length ≤ 5592405) lowC
abbrev mUpper : VM := mS0 (fun l => l.length ≤ 5592405) upC
theorem lift_lower {K : PySem.W.Frag} : LiftM K (fun x xs H Q => ∃ a, x = .str a ∧ xs = [] ∧ a.length ≤ 5592405 ∧ Q (.str (Txt.lower a)) H) mLower := lift_mS0 (g := Txt.lower) fun l h => by rw [S_len]; exact h
theorem lift_upper {K : PySem.W.Frag} : LiftM K (fun x xs H Q => ∃ a, x = .str a ∧ xs = [] ∧ a.length ≤ 5592405 ∧ Q (.str (Txt.upper a)) H) mUpper := lift_mS0 (g := Txt.upper) fun l h => by rw [S_len]; exact h
def splitC (l : Cs) : List Cs := spl [32] 0 [] l
theorem split_S (l : Cs) : Txt.split (S l) (S [32]) = (splitC l).map S := by
  have h := split_spl (S l) (S [32]) (by simp [tl]) (kind_ok (by decide +kernel))
  have h2 : (Txt.split (S l) (S [32])).map tl = splitC l := by rw [h]; simp [tl, splitC]
  rw [← h2, List.map_map]
  have : (S ∘ tl) = (id : Str → Str) := by funext x; exact S_of x
  rw [this, List.map_id]
@[simp] def mSplit : VM := fun w ws δ R => match w with
  | .d (.str l) => ws = [.d (.str [32])] ∧ l.length + 2 ≤ sizeLine ∧ R (.lst ((splitC l).map D.str)) δ
  | _ => False
theorem iss_strs {K : PySem.W.Frag} {H : Hp} (ls : List Cs) : Iss K H (ls.map fun l => V.str (S l)) (ls.map D.str) := by
  induction ls with
  | nil => exact .nil
  | cons x r ih => exact .cons (.str x) ih
theorem lift_split {K : PySem.W.Frag} : LiftM K (fun x xs H Q => ∃ a b, x = .str a ∧ xs = [.str b] ∧ (b.length == 0) = false ∧ a.length + 2 ≤ sizeLine ∧ rNewStrs (Txt.split a b) H Q) mSplit := by
  intro σ δ H H0 x w vs ws R Q E _ t1 t2 hd q
  cases w with
  | d d1 =>
    cases d1 with
    | str l =>
      obtain ⟨rfl, hc, h⟩ := (show ws = [.d (.str [32])] ∧ l.length + 2 ≤ sizeLine ∧ R (.lst ((splitC l).map D.str)) δ from hd)
      obtain ⟨v, rfl, t3⟩ := paired1 t2
      cases (show Is K H x (.str l) from t1)
      cases (show Is K H v (.str [32]) from t3)
      refine ⟨S l, S [32], rfl, rfl, rfl, by rw [S_len]; exact hc, fun p hp => ?_⟩
      rw [split_S, List.map_map]
      exact q _ _ _ _ h (AR.new E hp) (lst_new hp hp (iss_strs (splitC l)))
    | _ => exact hd.elim
  | _ => exact hd.elim
theorem joinL_nil : ∀ ls : List Cs, joinL [] ls = ls.flatten
  | [] => rfl
  | [x] => by simp [joinL]
  | x :: y :: r => by
    have := joinL_nil (y :: r)
    show x ++ ([] ++ joinL [] (y :: r)) = _
    rw [this, List.nil_append, List.flatten_cons (l := x)]
theorem join_S (ls : List Cs) : Txt.join (S []) (ls.map S) = S ls.flatten := by
  rw [join_eq]
  refine ext_tl ?_
  rw [tl_join, List.map_map]
  have : (tl ∘ S) = (id : Cs → Cs) := by funext x; simp [tl]
  rw [this, List.map_id]
  show joinL [] ls = _
  rw [joinL_nil]
@[simp] def mJoin : VM := fun w ws δ R => match w, ws with
  | .d (.str []), [u] => (match (seqU δ u).bind strsOf with
    | some ls => (ls.map (·.length)).sum ≤ 16777216 ∧ R (.d (.str ls.flatten)) δ
    | none => False)
  | _, _ => False
theorem lift_join {K : PySem.W.Frag} : LiftM K (fun x xs H Q => ∃ a p, ∃ ys : List Str, x = .str a ∧ xs = [.ref p] ∧ (SqL K H p (ys.map V.str) ∨ SqT K H p (ys.map V.str)) ∧
    (ys.map (·.length)).sum + ys.length * a.length ≤ 16777216 ∧ Q (.str (Txt.join a ys)) H) mJoin := by
  intro σ δ H H0 x w vs ws R Q E _ t1 t2 hd q
  unfold mJoin at hd
  split at hd
  · rename_i u
    obtain ⟨v, rfl, t3⟩ := paired1 t2
    cases e1 : seqU δ u with
    | none => simp only [e1, Option.bind_none] at hd
    | some xs =>
      cases e2 : strsOf xs with
      | none => simp only [e1, Option.bind_some, e2] at hd
      | some ls =>
        simp only [e1, Option.bind_some, e2] at hd
        obtain ⟨hz, h⟩ := hd
        obtain ⟨p, us, rfl, hq, hi⟩ := seqU_sq E t3 e1
        have ev := strsOf_iss hi e2
        subst ev
        cases (show Is K H x (.str []) from t1)
        refine ⟨S [], p, ls.map S, rfl, rfl, by rw [List.map_map]; exact hq, ?_, ?_⟩
        · rw [List.map_map, S_len]
          have : ((fun x : Str => x.length) ∘ S) = (fun l : Cs => l.length) := by funext l; exact S_len l
          rw [this]
          simpa using hz
        · rw [join_S]
          exact q _ _ _ H h (AR.refl E) (Is.str _)
  · exact hd.elim

/-! ### own lists changed -/
@[simp] def mMut (f : List D → List U → Option (D × List D)) : VM := fun w ws δ R => match w with
  | .bor i => (match δ[i]? with
    | some (some (.lst xs)) => (match f xs ws with
      | some (y, ys) => R (.d y) (δ.set i (some (.lst ys)))
      | none => False)
    | _ => False)
  | _ => False
theorem mMut_of {K : PySem.W.Frag} {f : List D → List U → Option (D × List D)} {σ : St} {δ : DEnv} {H H0 : Hp} {x : V} {w : U} {ws : List U} {R : U → DEnv → Prop} (E : EnvOk K σ H δ) (t : VT K σ H0 H δ x w) (h : mMut f w ws δ R) :
    ∃ i a vs xs y ys, w = .bor i ∧ x = .ref a ∧ σ[i]? = some (some (.ref a)) ∧ δ[i]? = some (some (.lst xs)) ∧ H a = some (.lst vs) ∧ Iss K H vs xs ∧ f xs ws = some (y, ys) ∧ R (.d y) (δ.set i (some (.lst ys))) := by
  cases w with
  | bor i =>
    have h : (match δ[i]? with
      | some (some (.lst xs)) => (match f xs ws with
        | some (y, ys) => R (.d y) (δ.set i (some (.lst ys)))
        | none => False)
      | _ => False) := h
    cases e : δ[i]? with
    | none => simp only [e] at h
    | some o =>
      cases o with
      | none => simp only [e] at h
      | some c =>
        cases c with
        | lst xs =>
          simp only [e] at h
          cases e2 : f xs ws with
          | none => simp only [e2] at h
          | some p =>
            obtain ⟨y, ys⟩ := p
            simp only [e2] at h
            obtain ⟨v', e1, a, vs, rfl, ha, hi⟩ := E.has i _ e
            have t1 := t.1
            rw [e1] at t1
            cases t1
            exact ⟨i, a, vs, xs, y, ys, rfl, rfl, e1, e, ha, hi, e2, h⟩
        | _ => simp only [e] at h
  | _ => exact h.elim
@[simp] def fAppend : List D → List U → Option (D × List D)
  | xs, [.d y] => if xs.length < sizeLine then some (.non, xs ++ [y]) else none
  | _, _ => none
theorem lift_append {K : PySem.W.Frag} : LiftM K rAppend (mMut fAppend) := by
  intro σ δ H H0 x w vs ws R Q E _ t1 t2 hd q
  obtain ⟨i, a, us, xs, y, ys, rfl, rfl, e1, e2, ha, hi, hf, h⟩ := mMut_of E t1 hd
  unfold fAppend at hf
  split at hf
  · split at hf
    · rename_i z hz
      cases hf
      obtain ⟨v, rfl, t3⟩ := paired1 t2
      exact ⟨a, us, v, rfl, rfl, ha, by rw [hi.length]; exact hz, q _ _ _ _ h (E.write e1 e2 (hi.append (.cons t3 .nil))) Is.non⟩
    · cases hf
  · cases hf
@[simp] def fExtend : List D → List U → Option (D × List D)
  | xs, [.lst ys] => if xs.length + ys.length ≤ sizeLine then some (.non, xs ++ ys) else none
  | xs, [.d (.tup ys)] => if xs.length + ys.length ≤ sizeLine then some (.non, xs ++ ys) else none
  | _, _ => none
/-- xs.extend(list | tuple) -/
def rExtT (K : PySem.W.Frag) : V → List V → Hp → VK → Prop := fun x vs H Q => ∃ l b xs zs, x = .ref l ∧ vs = [.ref b] ∧ H l = some (.lst xs) ∧ TupAt K H b zs ∧ xs.length + zs.length ≤ sizeLine ∧ Q .non (upd H l (.lst (xs ++ zs)))
theorem TupAt.obj {X : Cx} {pins : List (Addr × Obj)} {σ : St} {H : Hp} {s : Shared} (I : L2.Inv X pins σ H s) {b : Addr} {zs : List V} (h : TupAt X.K H b zs) :
    ∃ (its : List Value) (n : Nat), Vals zs its ∧ zs.length ≤ sizeLine ∧ s.heap.get? b = some { cls := .type "tuple", dict := none, data := .seq its.toArray n, slots := #[] } := by
  rcases h with ⟨o, h, hd, hs⟩ | ⟨o, its, n, h1, h2, h3, h4, h5, hd, hs⟩
  · obtain ⟨e, z, its, r, o', e', c', n, d'⟩ := (show ObjOk X.prog X.w H s.heap b (.frz o (.tup zs)) from I.hok b _ h)
    rw [e] at e'
    cases e'
    obtain ⟨oc, od, dt, sl⟩ := o
    simp only at c' d' hd hs
    subst c' d' hd hs
    exact ⟨its, n, r, z, e⟩
  · have e := I.kIn b o h1
    obtain ⟨oc, od, dt, sl⟩ := o
    simp only at h2 h3 hd hs
    subst h2 h3 hd hs
    refine ⟨its.toList, n, h5, ?_, by simpa using e⟩
    have := h5.length
    simp only [Array.length_toList] at this
    omega
theorem mt_extT {X : Cx} : MtR X "list.extend" (rExtT X.K) := by
  intro pins s σ H x vs v us Q I rx rv h
  obtain ⟨l, b, xs, zs, rfl, rfl, hH, hB, hz, q⟩ := h
  cases rx
  obtain ⟨u, rfl, ru⟩ := rv.one
  cases ru
  obtain ⟨z, its, n, r, hl, e⟩ := I.lstM hH
  obtain ⟨its2, n2, r2, z2, e2⟩ := hB.obj I
  have hl2 := r2.length
  have hsz : its.toArray.size + its2.toArray.size ≤ sizeLine := by rw [List.size_toArray, List.size_toArray]; omega
  have hlong : ¬ (!its.toArray.isEmpty && Builtin.List.listTooLong (its.toArray.size + its2.toArray.size)) = true := by
    rw [notLongL hsz, Bool.and_false]
    exact Bool.false_ne_true
  refine call_meets F.slot_list_extend ⟨_, e, rfl⟩ F.entry_list_extend (F.args_list_extend_2 _ _)
    (AutoSeq1.list_extend_list_tuple_0 l its.toArray n b its2.toArray n2 hlong (by rw [List.size_toArray]; omega) (by omega)) ⟨e, e2, ?_⟩
  refine ⟨.non, _, I.lset (its' := its ++ its2) hH e (by simp) (r.append r2) ?_, rfl, q⟩
  rw [List.length_append]
  omega
theorem mt_ext2 {X : Cx} : MtR X "list.extend" (fun x vs H Q => rExtend x vs H Q ∨ rExtT X.K x vs H Q) := MtR.or mt_extend mt_extT
theorem lift_extend {K : PySem.W.Frag} : LiftM K (fun x vs H Q => rExtend x vs H Q ∨ rExtT K x vs H Q) (mMut fExtend) := by
  intro σ δ H H0 x w vs ws R Q E _ t1 t2 hd q
  obtain ⟨i, a, us, xs, y, ys, rfl, rfl, e1, e2, ha, hi, hf, h⟩ := mMut_of E t1 hd
  unfold fExtend at hf
  split at hf
  · split at hf
    · rename_i zs hz
      cases hf
      obtain ⟨v, rfl, t3⟩ := paired1 t2
      obtain ⟨b, us2, rfl, hb, hi2⟩ := lstU_of E t3 rfl
      exact .inl ⟨a, b, us, us2, rfl, rfl, ha, hb, by rw [hi.length, hi2.length]; exact hz, q _ _ _ _ h (E.write e1 e2 (hi.append hi2)) Is.non⟩
    · cases hf
  · split at hf
    · rename_i zs hz
      cases hf
      obtain ⟨v, rfl, t3⟩ := paired1 t2
      cases (show Is K H v (.tup zs) from t3) with
      | tup ht hi2 => exact .inr ⟨a, _, us, _, rfl, rfl, ha, ht, by rw [hi.length, hi2.length]; exact hz, q _ _ _ _ h (E.write e1 e2 (hi.append hi2)) Is.non⟩
    · cases hf
  · cases hf
@[simp] def fInsert : List D → List U → Option (D × List D)
  | xs, [.d (.int i), .d y] => if xs.length < sizeLine ∧ 0 ≤ i ∧ i < 2 ^ 63 then some (.non, xs.take i.toNat ++ [y] ++ xs.drop i.toNat) else none
  | _, _ => none
theorem lift_insert {K : PySem.W.Frag} : LiftM K (fun x vs H Q => ∃ (l : Addr) (xs : List V) (i : Int) (y : V), x = .ref l ∧ vs = [.int i, y] ∧ H l = some (.lst xs) ∧ xs.length < sizeLine ∧ 0 ≤ i ∧ i < 2 ^ 63 ∧
    Q .non (upd H l (.lst (xs.take i.toNat ++ [y] ++ xs.drop i.toNat)))) (mMut fInsert) := by
  intro σ δ H H0 x w vs ws R Q E _ t1 t2 hd q
  obtain ⟨i, a, us, xs, y, ys, rfl, rfl, e1, e2, ha, hi, hf, h⟩ := mMut_of E t1 hd
  unfold fInsert at hf
  split at hf
  · split at hf
    · rename_i j z hz
      cases hf
      obtain ⟨v1, v2, rfl, t3, t4⟩ := paired2 t2
      cases (show Is K H v1 (.int j) from t3)
      exact ⟨a, us, j, v2, rfl, rfl, ha, by rw [hi.length]; exact hz.1, hz.2.1, hz.2.2, q _ _ _ _ h (E.write e1 e2 (((hi.take _).append (.cons t4 .nil)).append (hi.drop _))) Is.non⟩
    · cases hf
  · cases hf
@[simp] def fPopAt : List D → List U → Option (D × List D)
  | xs, [.d (.int i)] => if 0 ≤ i ∧ i < 2 ^ 63 then (match xs[i.toNat]? with
    | some y => some (y, xs.eraseIdx i.toNat)
    | none => none) else none
  | _, _ => none
theorem lift_popAt {K : PySem.W.Frag} : LiftM K rPopAt (mMut fPopAt) := by
  intro σ δ H H0 x w vs ws R Q E _ t1 t2 hd q
  obtain ⟨i, a, us, xs, y, ys, rfl, rfl, e1, e2, ha, hi, hf, h⟩ := mMut_of E t1 hd
  unfold fPopAt at hf
  split at hf
  · split at hf
    · rename_i j hz
      split at hf
      · rename_i z ez
        cases hf
        obtain ⟨v1, rfl, t3⟩ := paired1 t2
        cases (show Is K H v1 (.int j) from t3)
        obtain ⟨u, eu, hu⟩ := hi.get ez
        have hlt : j.toNat < us.length := (List.getElem?_eq_some_iff.mp eu).1
        have w := E.write e1 e2 (hi.eraseIdx j.toNat)
        exact ⟨a, us, j, j.toNat, u, rfl, rfl, ha, by omega, hz.2, seqIndex_of hz.1 (by omega), eu, q _ _ _ _ h w (w.st.is (fun b m => E.own m) hu)⟩
      · cases hf
    · cases hf
  · cases hf

/-! ### tuple.index -/
def fstIx (x : Cs) : List Cs → Option Nat
  | [] => none
  | y :: r => if y = x then some 0 else (fstIx x r).map (· + 1)
theorem fstIx_some {x : Cs} : ∀ {ls : List Cs} {j : Nat}, fstIx x ls = some j → ls[j]? = some x ∧ ∀ m, m < j → ls[m]? ≠ some x
  | [], _, h => by cases h
  | y :: r, j, h => by
    unfold fstIx at h
    split at h
    · rename_i e
      cases h
      subst e
      exact ⟨rfl, fun m hm => absurd hm (Nat.not_lt_zero m)⟩
    · rename_i e
      cases q : fstIx x r with
      | none => rw [q] at h; cases h
      | some k =>
        rw [q] at h
        cases h
        obtain ⟨h1, h2⟩ := fstIx_some q
        refine ⟨by simpa using h1, fun m hm => ?_⟩
        cases m with
        | zero =>
          intro z
          injection z with z
          exact e z
        | succ m => simpa using h2 m (Nat.lt_of_succ_lt_succ hm)
@[simp] def dIndexT (o : DE) (a : DE) : DE := fun δ R => o δ fun w δ1 => match w with
  | .d (.tup xs) => a δ1 fun u δ2 => (match u, strsOf xs with
    | .d (.str x), some ls => (match fstIx x ls with
      | some j => R (.d (.int j)) δ2
      | none => False)
    | _, _ => False)
  | _ => False
section
variable {X : Cx} {o e : Expr} {do_ da : DE} {apos cpos : Pos}
theorem de_indexT (ho : PE X o (up X.K do_)) (ha : PE X e (up X.K da)) (hbase : attributeBase o "index" X.env (eval o X.env) = eval o X.env := by rfl)
    (hfew : ((backTo cpos (starEach [e] X.env)).all (fun x => !x.1) && (backToKw cpos (keywordEach [] X.env)).all (fun x => x.1.isSome)
      && decide ([e].length + ([] : List Keyword).length + (if ([] : List Keyword).isEmpty then 0 else 1) < 30)) = true := by rfl)
    (hline : (apos.endLine == cpos.line) = true := by rfl) (hs : starEach [e] X.env = (false, eval e X.env) :: starEach [] X.env := by rfl) (hplain : (backTo cpos (starEach [] X.env)).any (·.1) = false := by rfl) :
    PE X (.Call (.Attribute o "index" apos) [e] [] cpos) (up X.K (dIndexT do_ da)) := by
  refine ⟨fun pins s σ H Q I ⟨δ, R, E, h, q⟩ => ?_⟩
  refine wpAny_Call_method_late hbase hfew hline rfl (thn (ho.run pins s σ H _ I ⟨δ, _, E, h, fun w δ1 v H1 h1 a1 t1 => (show ∃ w δ1, AR X.K σ δ H δ1 H1 ∧ VT X.K σ H H1 δ1 v w ∧ (match w with
  | .d (.tup xs) => da δ1 fun u δ2 => (match u, strsOf xs with
    | .d (.str x), some ls => (match fstIx x ls with
      | some j => R (.d (.int j)) δ2
      | none => False)
    | _, _ => False)
  | _ => False) from ⟨w, δ1, a1, t1, h1⟩)⟩) fun v s1 ⟨x, H1, I1, r1, w, δ1, a1, t1, h1⟩ => ?_)
  cases w with
  | d d1 =>
    cases d1 with
    | tup xs =>
      cases (show Is X.K H1 x (.tup xs) from t1) with
      | @tup p us _ ht hi =>
        cases r1
        obtain ⟨its, n, rv, hz, eo⟩ := ht.obj I1
        refine ⟨"tuple", "tuple.index", PySem.F.plainAttrs_tuple, PySem.F.slot_tuple_index, PySem.F.type_tuple_index, ⟨_, eo, rfl⟩, fun a ea => by cases ea; exact ⟨_, eo, rfl⟩, ?_⟩
        have hA := (pa_cons (X := X) ha pa_nil hs).run cpos pins s1 σ H1 (fun vs H2 => ∃ u δ2, ∃ v2, vs = [v2] ∧ AR X.K σ δ1 H1 δ2 H2 ∧ VT X.K σ H1 H2 δ2 v2 u ∧ (match u, strsOf xs with
          | .d (.str x), some ls => (match fstIx x ls with
            | some j => R (.d (.int j)) δ2
            | none => False)
          | _, _ => False)) I1 ⟨δ1, _, a1.env, h1, fun u δ2 v2 H2 h2 a2 t2 => ⟨u, δ2, v2, rfl, a2, t2, h2⟩⟩
        rw [hs] at hA ⊢
        refine Calls.callWith_builtin (by show (false || (backTo cpos (starEach [] X.env)).any (·.1)) = false; rw [hplain] <;> rfl) (Calls.evalArgs_plain ?_)
        refine thn hA fun us2 s2 ⟨vs, H2, I2, r2, u, δ2, v2, e2, a2, t2, h2⟩ => ?_
        subst e2
        split at h2
        · rename_i x ls hs1
          split at h2
          · rename_i j hj
            cases (show Is X.K H2 v2 (.str x) from t2)
            have tm : ∀ b, M σ δ1 b → ∃ zs, H1 b = some (.lst zs) := fun b m => a1.env.own m
            have ht2 := a2.st.tups tm ht
            have hi2 := a2.st.iss tm hi
            have ev := strsOf_iss hi2 hs1
            subst ev
            obtain ⟨g1, g2⟩ := fstIx_some hj
            refine mt_tup_index pins s2 σ H2 (.ref p) [.str (S x)] (.ref p) us2 Q I2 rfl r2 ⟨p, ls.map S, S x, j, rfl, rfl, by rw [List.map_map]; exact ht2.sq, by rw [List.getElem?_map, g1]; rfl, fun m hm z => ?_, ?_⟩
            · rw [List.getElem?_map] at z
              cases ez : ls[m]? with
              | none => rw [ez] at z; cases z
              | some y =>
                rw [ez] at z
                injection z with z
                exact g2 m hm (by rw [ez, S_inj z])
            · exact q _ _ _ H2 h2 (a1.trans a2) (Is.int _)
          · exact h2.elim
        · exact h2.elim
    | _ => exact h1.elim
  | _ => exact h1.elim
end
end Ib
set_option Elab.async false
set_option linter.all false
set_option autoImplicit false
set_option maxRecDepth 100000
set_option maxHeartbeats 4000000
/-! Ib4: statements, for, while, defs' promises and their calls. -/
namespace Ib
open PySem PySem.Spec PyProof.Rows L2 TL
variable [Tabl]

structure DEnds where
  nx : DEnv → Prop
  rt : U → DEnv → Prop
  bk : DEnv → Prop := fun _ => False
  ct : DEnv → Prop := fun _ => False
abbrev DS := DEnds → DEnv → Prop
structure SR (K : PySem.W.Frag) (np : Nat → Prop) (σ : St) (δ : DEnv) (H : Hp) (σ' : St) (δ' : DEnv) (H' : Hp) : Prop where
  st : Stp (M σ δ) H H'
  fpm : ∀ b, M σ' δ' b → M σ δ b ∨ H b = none
  env : EnvOk K σ' H' δ'
  par : ∀ k, np k → σ'[k]? = σ[k]?
  ln : σ'.length = σ.length
section
variable {K : PySem.W.Frag} {np : Nat → Prop} {σ σ1 σ2 : St} {δ δ1 δ2 : DEnv} {H H1 H2 : Hp}
theorem AR.sr (a : AR K σ δ H δ1 H1) : SR K np σ δ H σ δ1 H1 := ⟨a.st, fun _ m => .inl (a.sh.symm.M m), a.env, fun _ _ => rfl, rfl⟩
theorem SR.trans (a : SR K np σ δ H σ1 δ1 H1) (b : SR K np σ1 δ1 H1 σ2 δ2 H2) : SR K np σ δ H σ2 δ2 H2 :=
  ⟨a.st.trans b.st a.fpm, fun x m => by
    rcases b.fpm x m with h | h
    · exact a.fpm x h
    · exact .inr (a.st.dom x h), b.env, fun k hk => (b.par k hk).trans (a.par k hk), b.ln.trans a.ln⟩
theorem SR.refl (E : EnvOk K σ H δ) : SR K np σ δ H σ δ H := ⟨.refl _ _, fun _ m => .inl m, E, fun _ _ => rfl, rfl⟩
end
def upS (K : PySem.W.Frag) (np : Nat → Prop) (ds : DS) : TS := fun D σ H => ∃ δ R, EnvOk K σ H δ ∧ ds R δ ∧ (∀ δ' σ' H', R.nx δ' → SR K np σ δ H σ' δ' H' → D.nx σ' H') ∧
  (∀ w δ' v σ' H', R.rt w δ' → SR K np σ δ H σ' δ' H' → VT K σ' H H' δ' v w → D.rt v H') ∧ (∀ δ' σ' H', R.bk δ' → SR K np σ δ H σ' δ' H' → D.bk σ' H') ∧ (∀ δ' σ' H', R.ct δ' → SR K np σ δ H σ' δ' H' → D.ct σ' H')

/-! ### blocks -/
@[simp] def sNext : DS := fun R δ => R.nx δ
@[simp] def sSeq (a b : DS) : DS := fun R δ => a { R with nx := b R } δ
@[simp] def sRet (de : DE) : DS := fun R δ => de δ R.rt
@[simp] def sRetN : DS := fun R δ => R.rt (.d .non) δ
@[simp] def sExpr (de : DE) : DS := fun R δ => de δ fun _ δ1 => R.nx δ1
@[simp] def sIf (c : DT) (a b : DS) : DS := fun R δ => c δ fun k δ1 => ifB k (a R δ1) (b R δ1)
@[simp] def sNever : DS := fun _ _ => False
section
variable {X : Cx} {np : Nat → Prop} {st : Stmt} {rest b1 b2 : List Stmt} {t u : DS} {de : DE} {dt : DT} {e : Expr} {pos : Pos}
theorem dss_nil : PSs X [] (upS X.K np sNext) := PSs.imp pss_nil fun D σ H ⟨δ, R, E, h, q, _⟩ => q _ _ _ h (SR.refl E)
theorem upS_seq {K : PySem.W.Frag} {D : Ends} {σ : St} {H : Hp} (h : upS K np (sSeq t u) D σ H) : tSeq (upS K np t) (upS K np u) D σ H := by
  obtain ⟨δ, R, E, h, q1, q2, q3, q4⟩ := h
  exact ⟨δ, _, E, h, fun δ1 σ1 H1 h1 a1 => ⟨δ1, R, a1.env, h1, fun δ' σ' H' h2 a2 => q1 _ _ _ h2 (a1.trans a2), fun w δ' v σ' H' h2 a2 t2 => q2 _ _ _ _ _ h2 (a1.trans a2) (t2.back a1.st.dom),
    fun δ' σ' H' h2 a2 => q3 _ _ _ h2 (a1.trans a2), fun δ' σ' H' h2 a2 => q4 _ _ _ h2 (a1.trans a2)⟩, q2, q3, q4⟩
theorem dss_cons (h1 : PS X st (upS X.K np t)) (h2 : PSs X rest (upS X.K np u)) : PSs X (st :: rest) (upS X.K np (sSeq t u)) := PSs.imp (pss_cons h1 h2) fun _ _ _ h => upS_seq h
theorem dss_one (h1 : PS X st (upS X.K np t)) : PSs X [st] (upS X.K np t) := pss_one h1
theorem ds_ret (h : PE X e (up X.K de)) : PS X (.Return (some e) pos) (upS X.K np (sRet de)) := PS.imp (ps_ret h) fun D σ H ⟨δ, R, E, h, q1, q2, q3, q4⟩ => ⟨δ, _, E, h, fun w δ' v H' hw a t => q2 _ _ _ _ _ hw a.sr t⟩
theorem ds_retN : PS X (.Return none pos) (upS X.K np sRetN) := PS.imp ps_retN fun D σ H ⟨δ, R, E, h, q1, q2, q3, q4⟩ => q2 _ _ .non σ H h (SR.refl E) Is.non
theorem ds_expr (h : PE X e (up X.K de)) (hs : swapsWith e none pos.line X.env = pure false := by rfl) : PS X (.Expr e pos) (upS X.K np (sExpr de)) := PS.imp (ps_expr h hs) fun D σ H ⟨δ, R, E, h, q1, q2, q3, q4⟩ => ⟨δ, _, E, h, fun w δ' v H' hw a t => q1 _ _ _ hw a.sr⟩
theorem ds_if {c : Expr} (hc : PT X c (upT X.K dt)) (ha : PSs X b1 (upS X.K np t)) (hb : PSs X b2 (upS X.K np u)) : PS X (.If c b1 b2 pos) (upS X.K np (sIf dt t u)) := PS.imp (ps_if hc ha hb) fun D σ H ⟨δ, R, E, h, q1, q2, q3, q4⟩ => ⟨δ, _, E, h, fun k δ1 H1 h1 a1 => by
  have go : ∀ {z : DS}, z R δ1 → upS X.K np z D σ H1 := fun {z} hz => ⟨δ1, R, a1.env, hz, fun δ' σ' H' h2 a2 => q1 _ _ _ h2 (a1.sr.trans a2), fun w δ' v σ' H' h2 a2 t2 => q2 _ _ _ _ _ h2 (a1.sr.trans a2) (t2.back a1.st.dom),
    fun δ' σ' H' h2 a2 => q3 _ _ _ h2 (a1.sr.trans a2), fun δ' σ' H' h2 a2 => q4 _ _ _ h2 (a1.sr.trans a2)⟩
  cases k with
  | true => exact go h1
  | false => exact go h1⟩
theorem ds_never : PS X st (upS X.K np sNever) := PS.imp ps_never fun D σ H ⟨δ, R, E, h, _⟩ => h
theorem dss_never : PSs X rest (upS X.K np sNever) := PSs.imp pss_never fun D σ H ⟨δ, R, E, h, _⟩ => h
end

/-! ### a slot is given -/
section
variable {K : PySem.W.Frag} {np : Nat → Prop} {σ : St} {δ : DEnv} {H : Hp}
/-- i gets v, which stands for w: data, or an own list that is new since H0 -/
theorem EnvOk.give (E : EnvOk K σ H δ) {i : Nat} {v : V} {w : U} (h : VW K H v w) (hn : ∀ b, fp v w b → ¬ M σ δ b) : EnvOk K (σ.set i (some v)) H (δ.set i (some w)) := by
  refine ⟨E.tab, by rw [List.length_set, List.length_set]; exact E.len, fun j u e => ?_, fun j k x w1 y w2 b hjk q1 q2 q3 q4 f g => ?_⟩
  · by_cases hj : j = i
    · subst hj
      have hl : j < δ.length := by
        have := (List.getElem?_eq_some_iff.mp e).1
        simpa using this
      rw [List.getElem?_set_self hl] at e
      cases e
      exact ⟨v, by rw [List.getElem?_set_self (by rw [E.len]; exact hl)], h⟩
    · rw [List.getElem?_set_ne (Ne.symm hj)] at e ⊢
      exact E.has j u e
  · have old : ∀ {j : Nat} {x : V} {w1 : U}, j ≠ i → (σ.set i (some v))[j]? = some (some x) → (δ.set i (some w))[j]? = some (some w1) → σ[j]? = some (some x) ∧ δ[j]? = some (some w1) := fun {j x w1} hj e1 e2 => by
      rw [List.getElem?_set_ne (Ne.symm hj)] at e1 e2
      exact ⟨e1, e2⟩
    have new : ∀ {x : V} {w1 : U}, (σ.set i (some v))[i]? = some (some x) → (δ.set i (some w))[i]? = some (some w1) → x = v ∧ w1 = w := fun {x w1} e1 e2 => by
      have l1 : i < σ.length := by
        have := (List.getElem?_eq_some_iff.mp e1).1
        simpa using this
      have l2 : i < δ.length := by
        have := (List.getElem?_eq_some_iff.mp e2).1
        simpa using this
      rw [List.getElem?_set_self l1] at e1
      rw [List.getElem?_set_self l2] at e2
      cases e1
      cases e2
      exact ⟨rfl, rfl⟩
    by_cases hj : j = i
    · subst hj
      obtain ⟨rfl, rfl⟩ := new q1 q2
      obtain ⟨r3, r4⟩ := old (Ne.symm hjk) q3 q4
      exact hn b f ⟨k, y, w2, r3, r4, g⟩
    · obtain ⟨r1, r2⟩ := old hj q1 q2
      by_cases hk : k = i
      · subst hk
        obtain ⟨rfl, rfl⟩ := new q3 q4
        exact hn b g ⟨j, x, w1, r1, r2, f⟩
      · obtain ⟨r3, r4⟩ := old hk q3 q4
        exact E.sep j k x w1 y w2 b hjk r1 r2 r3 r4 f g
theorem M_give {i : Nat} {v : V} {w : U} {b : Addr} (m : M (σ.set i (some v)) (δ.set i (some w)) b) : M σ δ b ∨ fp v w b := by
  obtain ⟨j, x, u, e1, e2, f⟩ := m
  by_cases hj : j = i
  · subst hj
    have l1 : j < σ.length := by
      have := (List.getElem?_eq_some_iff.mp e1).1
      simpa using this
    have l2 : j < δ.length := by
      have := (List.getElem?_eq_some_iff.mp e2).1
      simpa using this
    rw [List.getElem?_set_self l1] at e1
    rw [List.getElem?_set_self l2] at e2
    cases e1
    cases e2
    exact .inr f
  · rw [List.getElem?_set_ne (Ne.symm hj)] at e1 e2
    exact .inl ⟨j, x, u, e1, e2, f⟩
theorem SR.give (E : EnvOk K σ H δ) {i : Nat} {v : V} {x : D} (hi : ¬ np i) (h : Is K H v x) : SR K np σ δ H (σ.set i (some v)) (δ.set i (some (.d x))) H :=
  ⟨.refl _ _, fun b m => by
    rcases M_give m with m | f
    · exact .inl m
    · cases v <;> exact f.elim, E.give h fun b f => by cases v <;> exact f.elim, fun k hk => by rw [List.getElem?_set_ne fun z : i = k => hi (by rw [z]; exact hk)], by rw [List.length_set]⟩
end

/-! ### targets of data -/
abbrev DG := D → DEnv → (DEnv → Prop) → Prop
abbrev DGs := List D → DEnv → (DEnv → Prop) → Prop
@[simp] def gN (i : Nat) : DG := fun x δ Q => Q (δ.set i (some (.d x)))
@[simp] def gsNil : DGs := fun xs δ Q => xs = [] ∧ Q δ
@[simp] def gsCons (g : DG) (gs : DGs) : DGs := fun xs δ Q => match xs with
  | x :: r => g x δ fun δ1 => gs r δ1 Q
  | [] => False
@[simp] def gT (n : Nat) (gs : DGs) : DG := fun x δ Q => match x with
  | .tup xs => xs.length = n ∧ gs xs δ Q
  | _ => False
/-- a target was given: the slots outside are kept -/
structure GR (K : PySem.W.Frag) (np : Nat → Prop) (σ : St) (δ : DEnv) (H : Hp) (σ' : St) (δ' : DEnv) : Prop where
  sr : SR K np σ δ H σ' δ' H
  dl : δ'.length = δ.length
  dk : ∀ k, np k → δ'[k]? = δ[k]?
def upG (K : PySem.W.Frag) (np : Nat → Prop) (g : DG) : TG := fun v σ H Q => ∃ δ x R, EnvOk K σ H δ ∧ Is K H v x ∧ g x δ R ∧ ∀ δ' σ', R δ' → GR K np σ δ H σ' δ' → Q σ' H
def upGs (K : PySem.W.Frag) (np : Nat → Prop) (g : DGs) : TGs := fun vs σ H Q => ∃ δ xs R, EnvOk K σ H δ ∧ Iss K H vs xs ∧ g xs δ R ∧ ∀ δ' σ', R δ' → GR K np σ δ H σ' δ' → Q σ' H
theorem PG.imp {X : Cx} {e : Expr} {t t' : TG} (h : PG X e t) (i : ∀ v σ H Q, t' v σ H Q → t v σ H Q) : PG X e t' := ⟨fun pins s σ H v u Q I r q => h.run pins s σ H v u Q I r (i _ _ _ _ q)⟩
theorem PGs.imp {X : Cx} {e : List Expr} {t t' : TGs} (h : PGs X e t) (i : ∀ v σ H Q, t' v σ H Q → t v σ H Q) : PGs X e t' := ⟨fun pins s σ H v u Q I r q => h.run pins s σ H v u Q I r (i _ _ _ _ q)⟩
section
variable {X : Cx} {np : Nat → Prop} {pos : Pos}
theorem dg_name (i : Nat) {x : Str} (hp : ¬ np i) (hN : X.N.Nodup) (hi : X.N[i]? = some x := by rfl) (hx : Loc X.env.scope x := by first | exact Or.inl rfl | exact Or.inr rfl) (hf : X.fn x = true ∨ X.env.scope.names.lookup x = some .local := by first | exact .inl rfl | exact .inr rfl) : PG X (.Name x pos) (upG X.K np (gN i)) :=
  PG.imp (pg_name hN hi hx hf) fun v σ H Q ⟨δ, x, R, E, hv, h, q⟩ => q _ _ h ⟨SR.give E hp hv, by rw [List.length_set], fun k hk => by rw [List.getElem?_set_ne fun z : i = k => hp (by rw [z]; exact hk)]⟩
theorem dgs_nil : PGs X [] (upGs X.K np gsNil) := PGs.imp pgs_nil fun vs σ H Q ⟨δ, xs, R, E, hv, h, q⟩ => by
  obtain ⟨rfl, h⟩ := h
  cases hv
  exact ⟨rfl, q _ _ h ⟨SR.refl E, rfl, fun _ _ => rfl⟩⟩
theorem dgs_cons {e : Expr} {es : List Expr} {g : DG} {gs : DGs} (h1 : PG X e (upG X.K np g)) (h2 : PGs X es (upGs X.K np gs))
    (hs : (assignEach (e :: es) X.env).map (·.2) = assign e X.env :: (assignEach es X.env).map (·.2) := by rfl) : PGs X (e :: es) (upGs X.K np (gsCons g gs)) :=
  PGs.imp (pgs_cons h1 h2 hs) fun vs σ H Q ⟨δ, xs, R, E, hv, h, q⟩ => by
    cases hv with
    | nil => exact h.elim
    | cons r t => exact ⟨_, _, rfl, δ, _, _, E, r, h, fun δ1 σ1 h1 a1 => ⟨δ1, _, R, a1.sr.env, t, h1, fun δ' σ' h2 a2 => q _ _ h2 ⟨a1.sr.trans a2.sr, a2.dl.trans a1.dl, fun k hk => (a2.dk k hk).trans (a1.dk k hk)⟩⟩⟩
theorem dg_tup {es : List Expr} {k : Nat} {gs : DGs} {n : Nat} (hc : X.calm = true) (h : PGs X es (upGs X.K np gs)) (hn : (assignEach es X.env).length = n := by rfl) (hst : (assignEach es X.env).findIdx? (·.1) = none := by rfl) :
    PG X (.Tuple es k pos) (upG X.K np (gT n gs)) := PG.imp (pg_tup hc h hn hst) fun v σ H Q ⟨δ, x, R, E, hv, h, q⟩ => by
  cases hv with
  | tup ht hi =>
    obtain ⟨hl, h⟩ := h
    exact ⟨_, _, rfl, ht.sq, by rw [hi.length]; exact hl, δ, _, R, E, hi, h, q⟩
  | _ => exact h.elim
/-- target = value (data) -/
@[simp] def sAsg (de : DE) (g : DG) : DS := fun R δ => de δ fun w δ1 => match w with
  | .d x => g x δ1 R.nx
  | _ => False
theorem ds_asg {tg e : Expr} {de : DE} {g : DG} (he : PE X e (up X.K de)) (hg : PG X tg (upG X.K np g)) (hs : swapsWithSole [tg] e pos.line X.env = pure false := by rfl) (hw : swappedStores [tg] e X.env = pure none := by rfl)
    (h1 : (assignEach [tg] X.env).map (·.2) = [assign tg X.env] := by rfl) : PS X (.Assign [tg] e pos) (upS X.K np (sAsg de g)) :=
  PS.imp (ps_asg he hg hs hw h1) fun D σ H ⟨δ, R, E, h, q1, q2, q3, q4⟩ => ⟨δ, _, E, h, fun w δ1 v H1 h1 a1 t1 => by
    cases w with
    | d x => exact ⟨δ1, x, _, a1.env, t1, h1, fun δ' σ' h2 a2 => q1 _ _ _ h2 (a1.sr.trans a2.sr)⟩
    | _ => exact h1.elim⟩
/-- name = value (data, or a list that is new) -/
@[simp] def sSet (de : DE) (i : Nat) : DS := fun R δ => de δ fun w δ1 => match w with
  | .bor _ => False
  | w => R.nx (δ1.set i (some w))
theorem sr_set {K : PySem.W.Frag} {σ : St} {δ δ1 : DEnv} {H H1 : Hp} {i : Nat} {v : V} {w : U} (E : EnvOk K σ H δ) (hp : ¬ np i) (a1 : AR K σ δ H δ1 H1) (t1 : VT K σ H H1 δ1 v w) (hw : ∀ j, w ≠ .bor j) : SR K np σ δ H (σ.set i (some v)) (δ1.set i (some w)) H1 := by
  have hv : VW K H1 v w ∧ ∀ b, fp v w b → H b = none := by
    cases w with
    | d x => exact ⟨t1, fun b f => by cases v <;> exact f.elim⟩
    | lst xs => exact t1
    | rdr ls n => exact t1
    | bor j => exact absurd rfl (hw j)
  refine ⟨a1.st, fun b m => ?_, a1.env.give hv.1 fun b f m => ?_, fun k hk => by rw [List.getElem?_set_ne fun z : i = k => hp (by rw [z]; exact hk)], by rw [List.length_set]⟩
  · rcases M_give m with m | f
    · exact .inl (a1.sh.symm.M m)
    · exact .inr (hv.2 b f)
  · exact E.dom (a1.sh.symm.M m) (hv.2 b f)
theorem ds_set (i : Nat) {x : Str} {e : Expr} {de : DE} {pos' : Pos} (hp : ¬ np i) (hN : X.N.Nodup) (he : PE X e (up X.K de)) (hi : X.N[i]? = some x := by rfl) (hx : Loc X.env.scope x := by first | exact Or.inl rfl | exact Or.inr rfl) (hs : swapsWith e (some (.Name x pos')) pos.line X.env = pure false := by rfl)
    (hf : X.fn x = true ∨ X.env.scope.names.lookup x = some .local := by first | exact .inl rfl | exact .inr rfl) : PS X (.Assign [.Name x pos'] e pos) (upS X.K np (sSet de i)) :=
  PS.imp (ps_set hN hi hx he hs hf) fun D σ H ⟨δ, R, E, h, q1, q2, q3, q4⟩ => ⟨δ, _, E, h, fun w δ1 v H1 h1 a1 t1 => by
    cases w with
    | bor j => exact h1.elim
    | d x => exact q1 _ _ _ h1 (sr_set E hp a1 t1 fun _ z => nomatch z)
    | lst x => exact q1 _ _ _ h1 (sr_set E hp a1 t1 fun _ z => nomatch z)
    | rdr x n => exact q1 _ _ _ h1 (sr_set E hp a1 t1 fun _ z => nomatch z)⟩
/-- name += value -/
@[simp] def sAug (i : Nat) (f : D → D → Option D) (de : DE) : DS := fun R δ => match δ[i]? with
  | some (some (.d x)) => de δ fun w δ1 => (match w with
    | .d y => (match f x y with
      | some z => R.nx (δ1.set i (some (.d z)))
      | none => False)
    | _ => False)
  | _ => False
theorem ds_augI (i : Nat) {x : Str} {e : Expr} {de : DE} {pos' : Pos} (hp : ¬ np i) (hN : X.N.Nodup) (he : PE X e (up X.K de)) (hi : X.N[i]? = some x := by rfl) (hx : Loc X.env.scope x := by first | exact Or.inl rfl | exact Or.inr rfl)
    (hf : X.fn x = true ∨ X.env.scope.names.lookup x = some .local := by first | exact .inl rfl | exact .inr rfl) : PS X (.AugAssign (.Name x pos') .Add e pos) (upS X.K np (sAug i (iOp fun a b => a + b) de)) :=
  PS.imp (ps_aug hN hi hx he ip_add hf) fun D σ H ⟨δ, R, E, h, q1, q2, q3, q4⟩ => by
    unfold sAug at h
    cases e : δ[i]? with
    | none => simp only [e] at h
    | some o =>
      cases o with
      | none => simp only [e] at h
      | some w =>
        cases w with
        | d x =>
          simp only [e] at h
          obtain ⟨v, e1, hv⟩ := E.has i _ e
          refine ⟨v, e1, δ, _, E, h, fun w δ1 u H1 h1 a1 t1 => ?_⟩
          cases w with
          | d y =>
            cases x with
            | int a =>
              cases y with
              | int b =>
                cases (show Is X.K H v (.int a) from hv)
                cases (show Is X.K H1 u (.int b) from t1)
                have h1 : R.nx (δ1.set i (some (.d (.int (a + b))))) := h1
                exact ⟨a, b, rfl, rfl, q1 _ _ _ h1 (sr_set E hp a1 (w := .d (.int (a + b))) (Is.int _) fun _ z => nomatch z)⟩
              | _ => exact h1.elim
            | _ => cases y <;> exact h1.elim
          | _ => exact h1.elim
        | _ => simp only [e] at h
end

/-! ### for, over what is fixed -/
abbrev DI := DEnv → (List D → DEnv → Prop) → Prop
/-- the turns give xs wherever the tuples of H1 stand -/
def Src (K : PySem.W.Frag) (J : It) (H1 : Hp) (xs : List D) : Prop := ∀ H2, (∀ a ys, TupAt K H1 a ys → TupAt K H2 a ys) → (∀ i, i < xs.length → J.go i H2) ∧ J.stop xs.length H2 ∧ ∀ i v H3, i < xs.length → J.yld i H2 v H3 → H3 = H2 ∧ ∃ x, xs[i]? = some x ∧ Is K H2 v x
def upI (K : PySem.W.Frag) (di : DI) : TI := fun σ H RR => ∃ δ R, EnvOk K σ H δ ∧ di δ R ∧ ∀ xs δ' J H', R xs δ' → AR K σ δ H δ' H' → Src K J H' xs → RR J H'
theorem PI.imp {X : Cx} {tg e : Expr} {t t' : TI} (h : PI X tg e t) (i : ∀ σ H Q, t' σ H Q → t σ H Q) : PI X tg e t' := ⟨fun pins s σ H Q I q => h.run pins s σ H Q I (i _ _ _ q)⟩
@[simp] def iT (de : DE) : DI := fun δ R => de δ fun w δ1 => match w with
  | .d (.tup xs) => R xs δ1
  | _ => False
def rngD (n : Nat) : List D := (List.range n).map fun i => D.int (i : Nat)
@[simp] def iR (de : DE) : DI := fun δ R => de δ fun w δ1 => match w with
  | .d (.int j) => -(2 ^ 62) ≤ j ∧ j < 2 ^ 62 ∧ R (rngD j.toNat) δ1
  | _ => False
section
variable {X : Cx} {tg e : Expr} {de : DE} {p pos : Pos}
theorem di_tup (h : PE X e (up X.K de)) : PI X tg e (upI X.K (iT de)) := PI.imp (pi_tup h) fun σ H RR ⟨δ, R, E, h, q⟩ => ⟨δ, _, E, h, fun w δ1 v H1 h1 a1 t1 => by
  cases w with
  | d x =>
    cases x with
    | tup xs =>
      cases (show Is X.K H1 v (.tup xs) from t1) with
      | tup ht hi =>
        refine ⟨_, rfl, ⟨_, ht.sq⟩, q _ _ _ _ h1 a1 fun H2 k => ?_⟩
        have ht2 := k _ _ ht
        have hi2 := Iss.mono k xs hi
        refine ⟨fun i hlt => ⟨_, _, ht2.sq, List.getElem?_eq_getElem (by rw [hi.length]; exact hlt)⟩, ⟨_, ht2.sq, by rw [hi.length]; exact Nat.le_refl _⟩, fun i v H3 _ y => ?_⟩
        obtain ⟨e, y⟩ := y
        exact ⟨e, hi2.getV (y _ ht2.sq)⟩
    | _ => exact h1.elim
  | _ => exact h1.elim⟩
theorem rngD_len (n : Nat) : (rngD n).length = n := by simp [rngD]
theorem rngD_get {n i : Nat} {x : D} (h : (rngD n)[i]? = some x) : x = .int (i : Nat) ∧ i < n := by
  unfold rngD at h
  rw [List.getElem?_map] at h
  cases q : (List.range n)[i]? with
  | none => rw [q] at h; cases h
  | some j =>
    rw [q] at h
    cases h
    obtain ⟨h1, h2⟩ := List.getElem?_eq_some_iff.mp q
    rw [List.getElem_range] at h2
    subst h2
    exact ⟨rfl, by simpa using h1⟩
theorem rngD_at {n i : Nat} (h : i < n) : (rngD n)[i]? = some (.int (i : Nat)) := by
  unfold rngD
  rw [List.getElem?_map, List.getElem?_range h]
  rfl
theorem src_rng {K : PySem.W.Frag} {H : Hp} {n : Nat} : Src K (Itr 0 n) H (rngD n) := fun H2 _ => by
  rw [rngD_len]
  refine ⟨fun i h => h, Nat.le_refl _, fun i v H3 hlt y => ?_⟩
  obtain ⟨e1, e2⟩ := y
  subst e2
  refine ⟨e1, _, rngD_at hlt, ?_⟩
  rw [Int.zero_add]
  exact .int _
theorem di_rng {a : Expr} {p pos : Pos} (hg : Gl X "range") (hm : X.mg "range" = none) (ha : PE X a (up X.K de)) (hs : starEach [a] X.env = [(false, eval a X.env)] := by rfl) : PI X tg (.Call (.Name "range" p) [a] [] pos) (upI X.K (iR de)) :=
  PI.imp (pi_range1 hg hm (pa_cons ha pa_nil hs) hs) fun σ H RR ⟨δ, R, E, h, q⟩ => ⟨δ, _, E, h, fun w δ1 v H1 h1 a1 t1 => by
    cases w with
    | d x =>
      cases x with
      | int j =>
        cases (show Is X.K H1 v (.int j) from t1)
        exact ⟨j, rfl, h1.1, h1.2.1, q _ _ _ _ h1.2.2 a1 src_rng⟩
      | _ => exact h1.elim
    | _ => exact h1.elim⟩
/-- for target in iter: body -/
def sFor (di : DI) (g : DG) (b : DS) : DS := fun R δ => di δ fun xs δ1 => ∃ Inv : Nat → DEnv → Prop, Inv 0 δ1 ∧
  (∀ i x δ2, xs[i]? = some x → Inv i δ2 → g x δ2 fun δ3 => b { nx := Inv (i + 1), ct := Inv (i + 1), bk := R.nx, rt := R.rt } δ3) ∧ ∀ δ2, Inv xs.length δ2 → R.nx δ2
theorem ds_for {iter : Expr} {body : List Stmt} {di : DI} {g : DG} {b : DS} {np : Nat → Prop} (hp : PassesOwn (model X.prog X.w) X.A X.env X.xe) (hc : X.calm = true) (hi : PI X tg iter (upI X.K di)) (hg : PG X tg (upG X.K np g)) (hb : PSs X body (upS X.K np b))
    (hs : ∀ x, foldedSetIterable iter X.env x = pure x := by intro _; rfl) : PS X (.For tg iter body [] pos) (upS X.K np (sFor di g b)) :=
  PS.imp (ps_for hp hc hi hg hb hs) fun D σ H ⟨δ, R, E, h, q1, q2, q3, q4⟩ => ⟨δ, _, E, h, fun xs δ1 J H1 h1 a1 src => by
    obtain ⟨Inv, h0, step, fin⟩ := h1
    refine ⟨fun i m σ2 H2 => m = xs.length - i ∧ i ≤ xs.length ∧ ∃ δ2, Inv i δ2 ∧ SR X.K np σ δ1 H1 σ2 δ2 H2, ⟨_, rfl, Nat.zero_le _, δ1, h0, SR.refl a1.env⟩, ?_⟩
    rintro i m σ2 H2 ⟨rfl, hle, δ2, hI, s2⟩
    obtain ⟨go, stop, yld⟩ := src H2 fun a ys ht => s2.st.tups (fun b m => a1.env.own m) ht
    by_cases hlt : i < xs.length
    · refine .inr ⟨go i hlt, fun σ' H' => i + 1 ≤ xs.length ∧ ∃ δ3, Inv (i + 1) δ3 ∧ SR X.K np σ δ1 H1 σ' δ3 H', fun σ' H' ⟨hl', δ3, hI', s3⟩ => ⟨xs.length - (i + 1), by omega, rfl, hl', δ3, hI', s3⟩, fun v H3 y => ?_⟩
      obtain ⟨rfl, x, hx, hv⟩ := yld i v H3 hlt y
      refine ⟨δ2, x, _, s2.env, hv, step i x δ2 hx hI, fun δ3 σ3 h3 ⟨s3, _, _⟩ => ⟨δ3, _, s3.env, h3, ?_, ?_, ?_, ?_⟩⟩
      · exact fun δ4 σ4 H4 h4 s4 => ⟨hlt, δ4, h4, s2.trans (s3.trans s4)⟩
      · exact fun w δ4 v σ4 H4 h4 s4 t4 => q2 _ _ _ _ _ h4 (a1.sr.trans (s2.trans (s3.trans s4))) (t4.back fun b e => a1.st.dom b (s2.st.dom b (s3.st.dom b e)))
      · exact fun δ4 σ4 H4 h4 s4 => q1 _ _ _ h4 (a1.sr.trans (s2.trans (s3.trans s4)))
      · exact fun δ4 σ4 H4 h4 s4 => ⟨hlt, δ4, h4, s2.trans (s3.trans s4)⟩
    · have e : i = xs.length := by omega
      subst e
      exact .inl ⟨stop, q1 _ _ _ (fin δ2 hI) (a1.sr.trans s2)⟩⟩
/-- while test: body -/
def sWhile (c : DT) (b : DS) : DS := fun R δ => ∃ (Inv : Nat → DEnv → Prop) (m : Nat), Inv m δ ∧ ∀ m δ1, Inv m δ1 → c δ1 fun k δ2 => ifB k (b { nx := fun δ3 => ∃ m', m' < m ∧ Inv m' δ3, ct := fun δ3 => ∃ m', m' < m ∧ Inv m' δ3, bk := R.nx, rt := R.rt } δ2) (R.nx δ2)
theorem ds_while {c : Expr} {body : List Stmt} {dt : DT} {b : DS} {np : Nat → Prop} (hp : PassesOwn (model X.prog X.w) X.A X.env X.xe) (hc : PT X c (upT X.K dt)) (hb : PSs X body (upS X.K np b)) : PS X (.While c body [] pos) (upS X.K np (sWhile dt b)) :=
  PS.imp (ps_while hp hc hb) fun D σ H ⟨δ, R, E, h, q1, q2, q3, q4⟩ => by
    obtain ⟨Inv, m, h0, step⟩ := h
    refine ⟨fun m σ2 H2 => ∃ δ2, Inv m δ2 ∧ SR X.K np σ δ H σ2 δ2 H2, ⟨m, δ, h0, SR.refl E⟩, ?_⟩
    rintro m σ2 H2 ⟨δ2, hI, s2⟩
    refine ⟨δ2, _, s2.env, step m δ2 hI, fun k δ3 H3 h3 a3 => ?_⟩
    cases k with
    | true =>
      refine ⟨fun σ' H' => ∃ m', m' < m ∧ ∃ δ4, Inv m' δ4 ∧ SR X.K np σ δ H σ' δ4 H', fun σ' H' z => z, ?_⟩
      refine ⟨δ3, _, a3.env, h3, ?_, ?_, ?_, ?_⟩
      · exact fun δ4 σ4 H4 ⟨m', hm, h4⟩ s4 => ⟨m', hm, δ4, h4, s2.trans (a3.sr.trans s4)⟩
      · exact fun w δ4 v σ4 H4 h4 s4 t4 => q2 _ _ _ _ _ h4 (s2.trans (a3.sr.trans s4)) (t4.back fun b e => s2.st.dom b (a3.st.dom b e))
      · exact fun δ4 σ4 H4 h4 s4 => q1 _ _ _ h4 (s2.trans (a3.sr.trans s4))
      · exact fun δ4 σ4 H4 ⟨m', hm, h4⟩ s4 => ⟨m', hm, δ4, h4, s2.trans (a3.sr.trans s4)⟩
    | false => exact q1 _ _ _ h3 (s2.trans a3.sr)
end

/-! ### defs -/
/-- a def over data: its arguments, what is asked of its answer (data, or a new list) -/
abbrev PSp := List D → (U → Prop) → Prop
def spP (K : PySem.W.Frag) (psp : PSp) : Sp := fun vs H Q _ => Tbs H ∧ ∃ ds R, Iss K H vs ds ∧ psp ds R ∧ ∀ w v H', R w → Stp (fun _ => False) H H' → VT K [] H H' [] v w → Q v H'
/-- a def over the reader and data -/
abbrev RSp := Nat → List D → (U → Nat → Prop) → Prop
def spR (K : PySem.W.Frag) (rsp : RSp) : Sp := fun vs H Q _ => Tbs H ∧ ∃ a ls n us ds R, vs = .ref a :: us ∧ RdrAt H a ls n ∧ Iss K H us ds ∧ rsp n ds R ∧ ∀ w n' v H', R w n' → Stp (fun b => b = a ∨ b = ls) H H' → RdrAt H' a ls n' → VT K [] H H' [] v w → Q v H'
theorem VT.bare {K : PySem.W.Frag} {H H' : Hp} {v : V} {w : U} (t : VT K [] H H' [] v w) (σ : St) (δ : DEnv) : VT K σ H H' δ v w := by
  cases w with
  | d x => exact t
  | lst xs => exact t
  | rdr ls n => exact t
  | bor i => exact absurd t.1 (by simp)
@[simp] def dCallP (psp : PSp) (da : DA) : DE := fun δ R => da δ fun ws δ1 => match allD ws with
  | some ds => psp ds fun w => R w δ1
  | none => False
@[simp] def dCallR (rsp : RSp) (da : DA) : DE := fun δ R => da δ fun ws δ1 => match ws with
  | .bor i :: us => (match δ1[i]?, allD us with
    | some (some (.rdr ls n)), some ds => rsp n ds fun w n' => R w (δ1.set i (some (.rdr ls n')))
    | _, _ => False)
  | _ => False
/-- the slot's reader is turned -/
theorem EnvOk.turn {K : PySem.W.Frag} {σ : St} {H H' : Hp} {δ : DEnv} (E : EnvOk K σ H δ) {i : Nat} {a ls : Addr} {n n' : Nat} (e1 : σ[i]? = some (some (.ref a))) (e2 : δ[i]? = some (some (.rdr ls n))) (st : Stp (fun b => b = a ∨ b = ls) H H') (hr : RdrAt H' a ls n') :
    AR K σ δ H (δ.set i (some (.rdr ls n'))) H' := by
  have ma : ∀ b, b = a ∨ b = ls → M σ δ b := fun b hb => ⟨i, _, _, e1, e2, hb⟩
  have hm : ∀ b, b = a ∨ b = ls → ∃ xs, H b = some (.lst xs) := fun b z => E.own (ma b z)
  have hl : i < δ.length := (List.getElem?_eq_some_iff.mp e2).1
  have sh : Sh δ (δ.set i (some (.rdr ls n'))) := Sh.set e2 rfl
  refine ⟨sh, st.weak ma, ⟨st.tab E.tab, by rw [List.length_set]; exact E.len, fun j w e => ?_, fun j k v w v' w' b hjk q1 q2 q3 q4 f g => ?_⟩⟩
  · by_cases hj : j = i
    · subst hj
      rw [List.getElem?_set_self hl] at e
      cases e
      exact ⟨_, e1, a, rfl, hr⟩
    · rw [List.getElem?_set_ne (Ne.symm hj)] at e
      obtain ⟨v, q1, h⟩ := E.has j w e
      refine ⟨v, q1, ?_⟩
      have nf : ∀ b, fp v w b → ¬ (b = a ∨ b = ls) := fun b f z => E.sep j i v w _ _ b hj q1 e e1 e2 f z
      cases w with
      | d x => exact st.is hm h
      | lst xs =>
        obtain ⟨p, vs, rfl, ep, hi⟩ := h
        exact ⟨p, vs, rfl, st.keep _ _ ep (nf p rfl), st.iss hm hi⟩
      | rdr l2 n2 =>
        obtain ⟨p, rfl, ne, ns, x1, x2, x3, x4, x5, x6, g1, g2, r⟩ := h
        exact ⟨p, rfl, ne, ns, x1, x2, x3, x4, x5, x6, st.keep _ _ g1 (nf l2 (.inr rfl)), st.keep _ _ g2 (nf p (.inl rfl)), r⟩
      | bor i => exact h.elim
  · obtain ⟨w1, r1, s1⟩ := sh.symm.at' q2
    obtain ⟨w2, r2, s2⟩ := sh.symm.at' q4
    refine E.sep j k v w1 v' w2 b hjk q1 r1 q3 r2 ?_ ?_
    · rw [← fp_er, s1, fp_er]; exact f
    · rw [← fp_er, s2, fp_er]; exact g
section
variable {X : Cx} {k : Nat} {f : Addr} {fd : FuncData} {ps : List Str} {psp : PSp} {rsp : RSp} {x : Str} {p pos : Pos} {e : Expr} {es : List Expr} {da : DA}
theorem de_call (F : FnOk X.prog X.w X.K X.mg X.base CX0 k f fd ps (spP X.K psp)) (hr : Room k X.A) (hg : Gl X x) (hm : X.mg x = some (.ref f)) (hk : PySem.W.keepIn X.K (.ref f) = true) (hb : Binds X.K fd ps []) (ha : PA X (e :: es) (upA X.K da))
    (hdb : (x == ("__debug__" : Str)) = false := by decide) (he : starEach (e :: es) X.env = (false, eval e X.env) :: starEach es X.env := by rfl) (hpl : (backTo pos (starEach es X.env)).any (·.1) = false := by rfl) :
    PE X (.Call (.Name x p) (e :: es) [] pos) (up X.K (dCallP psp da)) :=
  PE.imp (pe_call F hr hg hm hk hb .nil pass0 ha hdb he hpl) fun σ H Q ⟨δ, R, E, h, q⟩ => ⟨δ, _, E, h, fun ws δ1 vs H1 h1 a1 t1 => by
    show spP X.K psp (vs ++ []) H1 Q E0
    rw [List.append_nil]
    cases e1 : allD ws with
    | none => simp only [e1] at h1
    | some ds =>
      simp only [e1] at h1
      exact ⟨a1.env.tab, ds, _, allD_iss t1 e1, h1, fun w v H' hw hs hv => q _ _ _ _ hw (a1.trans (AR.stp a1.env hs)) ((hv.bare σ δ1).back a1.st.dom)⟩⟩
theorem de_callR (F : FnOk X.prog X.w X.K X.mg X.base CX0 k f fd ps (spR X.K rsp)) (hr : Room k X.A) (hg : Gl X x) (hm : X.mg x = some (.ref f)) (hk : PySem.W.keepIn X.K (.ref f) = true) (hb : Binds X.K fd ps []) (ha : PA X (e :: es) (upA X.K da))
    (hdb : (x == ("__debug__" : Str)) = false := by decide) (he : starEach (e :: es) X.env = (false, eval e X.env) :: starEach es X.env := by rfl) (hpl : (backTo pos (starEach es X.env)).any (·.1) = false := by rfl) :
    PE X (.Call (.Name x p) (e :: es) [] pos) (up X.K (dCallR rsp da)) :=
  PE.imp (pe_call F hr hg hm hk hb .nil pass0 ha hdb he hpl) fun σ H Q ⟨δ, R, E, h, q⟩ => ⟨δ, _, E, h, fun ws δ1 vs H1 h1 a1 t1 => by
    show spR X.K rsp (vs ++ []) H1 Q E0
    rw [List.append_nil]
    cases t1 with
    | nil => exact h1.elim
    | cons r t =>
      rename_i v0 w0 vs0 us
      cases w0 with
      | bor i =>
        have h1 : (match δ1[i]?, allD us with
          | some (some (.rdr ls n)), some ds => rsp n ds fun w n' => R w (δ1.set i (some (.rdr ls n')))
          | _, _ => False) := h1
        split at h1
        · rename_i ls n ds e1 e2
          obtain ⟨v', e3, a, rfl, hra⟩ := a1.env.has i _ e1
          have r1 := r.1
          rw [e3] at r1
          cases r1
          exact ⟨a1.env.tab, a, ls, n, vs0, ds, _, rfl, hra, allD_iss t e2, h1, fun w n' v H' hw hs hra' hv => by
            have a2 := a1.env.turn e3 e1 hs hra'
            exact q _ _ _ _ hw (a1.trans a2) ((hv.bare σ _).back a1.st.dom)⟩
        · exact h1.elim
      | _ => exact h1.elim⟩
end
/-- what a def returns: a borrowed own list is its content -/
@[simp] def resR (R : U → Prop) (w : U) (δ : DEnv) : Prop := match w with
  | .bor i => (match δ[i]? with
    | some (some (.lst xs)) => R (.lst xs)
    | _ => False)
  | w => R w
@[simp] def slots (N : List Str) (us : List U) : DEnv := us.map some ++ List.replicate (N.length - us.length) none
theorem slots_get {N : List Str} {us : List U} {i : Nat} {w : U} (h : (slots N us)[i]? = some (some w)) : us[i]? = some w := by
  unfold slots at h
  by_cases hi : i < us.length
  · rw [List.getElem?_append_left (by simpa using hi), List.getElem?_map] at h
    cases q : us[i]? with
    | none => rw [q] at h; cases h
    | some z => rw [q] at h; cases h; rfl
  · rw [List.getElem?_append_right (by simpa using hi)] at h
    have := List.mem_of_getElem? h
    rw [List.mem_replicate] at this
    cases this.2
theorem start_get {N : List Str} {vs : List V} {i : Nat} {v : V} (h : (L2.start N vs)[i]? = some (some v)) : vs[i]? = some v := by
  unfold L2.start at h
  by_cases hi : i < vs.length
  · rw [List.getElem?_append_left (by simpa using hi), List.getElem?_map] at h
    cases q : vs[i]? with
    | none => rw [q] at h; cases h
    | some z => rw [q] at h; cases h; rfl
  · rw [List.getElem?_append_right (by simpa using hi)] at h
    have := List.mem_of_getElem? h
    rw [List.mem_replicate] at this
    cases this.2
theorem start_at {N : List Str} {vs : List V} {i : Nat} {v : V} (h : vs[i]? = some v) : (L2.start N vs)[i]? = some (some v) := by
  have hi : i < vs.length := (List.getElem?_eq_some_iff.mp h).1
  unfold L2.start
  rw [List.getElem?_append_left (by simpa using hi), List.getElem?_map, h]
  rfl
theorem start_env {K : PySem.W.Frag} {H : Hp} {N : List Str} {vs : List V} {ds : List D} (tb : Tbs H) (h : Iss K H vs ds) (hl : ds.length ≤ N.length) : EnvOk K (L2.start N vs) H (slots N (ds.map U.d)) := by
  refine ⟨tb, by unfold L2.start slots; simp [h.length], fun i w e => ?_, fun i j v w v' w' b hij q1 q2 q3 q4 f g => ?_⟩
  · have e := slots_get e
    rw [List.getElem?_map] at e
    cases q : ds[i]? with
    | none => rw [q] at e; cases e
    | some d =>
      rw [q] at e
      cases e
      obtain ⟨v, e1, hv⟩ := h.get q
      exact ⟨v, start_at e1, hv⟩
  · have e := slots_get q2
    rw [List.getElem?_map] at e
    cases q : ds[i]? with
    | none => rw [q] at e; cases e
    | some d =>
      rw [q] at e
      cases e
      cases v <;> exact f.elim
theorem M_data {σ : St} {δ : DEnv} {b : Addr} (h : ∀ (i : Nat) w, δ[i]? = some (some w) → ∃ x, w = .d x) (m : M σ δ b) : False := by
  obtain ⟨i, v, w, e1, e2, f⟩ := m
  obtain ⟨x, rfl⟩ := h i w e2
  cases v <;> exact f.elim
/-- the first n slots: the parameters -/
abbrev kpn (n : Nat) : Nat → Prop := fun k => k < n
section
variable {P : Program} {w : World} {K : PySem.W.Frag} {mg : Str → Option Value} {base : Heap}
/-- a def over data: its body's reading from the start -/
theorem readP {N ps : List Str} {psp : PSp} {ds : DS} {vs : List V} {H : Hp} {Q : VK} {xt : XK} (hl : ∀ a R, psp a R → a.length = ps.length) (hle : ps.length ≤ N.length)
    (hs : ∀ a R, psp a R → ds { nx := fun _ => R (.d .non), rt := resR R } (slots N (a.map U.d))) (h : spP K psp vs H Q xt) : upS K (kpn ps.length) ds { nx := fun _ H' => Q .non H', rt := Q } (L2.start N vs) H := by
  obtain ⟨tb, a, R, hi, hp, q⟩ := h
  have e0 := start_env (N := N) tb hi (by rw [hl a R hp]; exact hle)
  have nod : ∀ b, ¬ M (L2.start N vs) (slots N (a.map U.d)) b := fun b m => M_data (fun i w e => by
    have e := slots_get e
    rw [List.getElem?_map] at e
    cases q : a[i]? with
    | none => rw [q] at e; cases e
    | some d => rw [q] at e; cases e; exact ⟨_, rfl⟩) m
  have same : ∀ {σ' : St} {δ' : DEnv} {H' : Hp}, SR K (kpn ps.length) (L2.start N vs) (slots N (a.map U.d)) H σ' δ' H' → Stp (fun _ => False) H H' := fun {σ' δ' H'} s => s.st.weak nod
  refine ⟨_, _, e0, hs a R hp, fun δ' σ' H' h s => q _ _ _ h (same s) Is.non, fun w δ' v σ' H' h s t => ?_, fun _ _ _ z => z.elim, fun _ _ _ z => z.elim⟩
  cases w with
  | d y => exact q _ _ _ h (same s) t
  | lst ys => exact q _ _ _ h (same s) t
  | rdr ls n => exact q _ _ _ h (same s) t
  | bor i =>
    have h : (match δ'[i]? with
      | some (some (.lst xs)) => R (.lst xs)
      | _ => False) := h
    split at h
    · rename_i xs e
      obtain ⟨v', e1, a2, us, rfl, ea, hi2⟩ := s.env.has i _ e
      have t1 := t.1
      rw [e1] at t1
      cases t1
      refine q _ _ _ h (same s) ⟨⟨a2, us, rfl, ea, hi2⟩, fun b hb => ?_⟩
      have hb : b = a2 := hb
      subst hb
      exact (s.fpm b ⟨i, _, _, e1, e, rfl⟩).resolve_left (nod b)
    · exact h.elim
/-- a def over data, by its body -/
theorem fnP {x qual : Str} {st : Stmt} {f : Addr} {fd : FuncData} {N ps : List Str} {k : Nat} {psp : PSp} {ds : DS} (F : Fun K x qual st f fd) (S : FnScope N ps (defScope st)) (hl : ∀ a R, psp a R → a.length = ps.length) (hle : ps.length ≤ N.length)
    (hb : ∀ (cdv : Value) (A : Around) (outer : List PySem.Env) (s : Shared) (H : Hp) (E : XK), Room k (A.deeper (envOfC qual (defScope st) s.heap.objs.size f cdv)) → PSs (cxOf CX0 P w K mg base N qual (defScope st) f cdv A outer s H E).nox (defBody st) (upS K (kpn ps.length) ds))
    (hs : ∀ a R, psp a R → ds { nx := fun _ => R (.d .non), rt := resR R } (slots N (a.map U.d))) : FnOk P w K mg base CX0 (k + 1) f fd ps (spP K psp) :=
  F.ok S (fun vs H Q E ⟨_, a, R, hi, hp, _⟩ => by rw [hi.length]; exact hl a R hp) fun cdv A outer s H vs Q E hr h => ⟨_, hb cdv A outer s H E hr, readP hl hle hs h⟩
/-- a def over the reader and data, by its body -/
theorem fnR {x qual : Str} {st : Stmt} {f : Addr} {fd : FuncData} {N ps : List Str} {k : Nat} {rsp : RSp} {ds : DS} (F : Fun K x qual st f fd) (S : FnScope N ps (defScope st)) (hl : ∀ n a R, rsp n a R → a.length + 1 = ps.length) (hle : ps.length ≤ N.length)
    (hb : ∀ (cdv : Value) (A : Around) (outer : List PySem.Env) (s : Shared) (H : Hp) (E : XK), Room k (A.deeper (envOfC qual (defScope st) s.heap.objs.size f cdv)) → PSs (cxOf CX0 P w K mg base N qual (defScope st) f cdv A outer s H E).nox (defBody st) (upS K (kpn ps.length) ds))
    (hs : ∀ n ls a R, rsp n a R → ds { nx := fun δ => ∃ n', δ[0]? = some (some (.rdr ls n')) ∧ R (.d .non) n', rt := fun w δ => ∃ n', δ[0]? = some (some (.rdr ls n')) ∧ (∃ y, w = .d y) ∧ R w n' } (slots N (.rdr ls n :: a.map U.d))) : FnOk P w K mg base CX0 (k + 1) f fd ps (spR K rsp) := by
  refine F.ok S (fun vs H Q E hh => ?_) fun cdv A outer s H vs Q E hr hh => ⟨_, hb cdv A outer s H E hr, ?_⟩
  · obtain ⟨_, p, ls, n, us, a, R, rfl, _, hi, hp, _⟩ := hh
    rw [List.length_cons, hi.length]
    exact hl n a R hp
  obtain ⟨tb, p, ls, n, us, a, R, rfl, hra, hi, hp, q⟩ := hh
  have hla := hl n a R hp
  have get0 : ∀ {i : Nat} {w : U}, (slots N (.rdr ls n :: a.map U.d))[i]? = some (some w) → (i = 0 ∧ w = .rdr ls n) ∨ ∃ j d, i = j + 1 ∧ a[j]? = some d ∧ w = .d d := fun {i w} e => by
    have e := slots_get e
    cases i with
    | zero => left; simp at e; exact ⟨rfl, e.symm⟩
    | succ j =>
      right
      rw [List.getElem?_cons_succ, List.getElem?_map] at e
      cases q : a[j]? with
      | none => rw [q] at e; cases e
      | some d => rw [q] at e; cases e; exact ⟨j, d, rfl, q, rfl⟩
  have s0 : (L2.start N (.ref p :: us))[0]? = some (some (.ref p)) := start_at rfl
  have d0 : (slots N (.rdr ls n :: a.map U.d))[0]? = some (some (.rdr ls n)) := rfl
  have e0 : EnvOk K (L2.start N (.ref p :: us)) H (slots N (.rdr ls n :: a.map U.d)) := by
    refine ⟨tb, by unfold L2.start slots; simp [hi.length], fun i w e => ?_, fun i j v w v' w' b hij q1 q2 q3 q4 f g => ?_⟩
    · rcases get0 e with ⟨rfl, rfl⟩ | ⟨j, d, rfl, ed, rfl⟩
      · exact ⟨_, s0, p, rfl, hra⟩
      · obtain ⟨v, e1, hv⟩ := hi.get ed
        exact ⟨v, start_at (by simpa using e1), hv⟩
    · rcases get0 q2 with ⟨rfl, rfl⟩ | ⟨j1, d, rfl, ed, rfl⟩
      · rcases get0 q4 with ⟨rfl, rfl⟩ | ⟨j2, d2, rfl, ed2, rfl⟩
        · exact hij rfl
        · cases v' <;> exact g.elim
      · cases v <;> exact f.elim
  have mp : ∀ b, M (L2.start N (.ref p :: us)) (slots N (.rdr ls n :: a.map U.d)) b → b = p ∨ b = ls := fun b m => by
    obtain ⟨i, v, w, e1, e2, f⟩ := m
    rcases get0 e2 with ⟨rfl, rfl⟩ | ⟨j1, d, rfl, ed, rfl⟩
    · rw [s0] at e1
      cases e1
      exact f
    · cases v <;> exact f.elim
  have hps : 0 < ps.length := by omega
  have back : ∀ {σ' : St} {δ' : DEnv} {H' : Hp} {n' : Nat}, SR K (kpn ps.length) (L2.start N (.ref p :: us)) (slots N (.rdr ls n :: a.map U.d)) H σ' δ' H' → δ'[0]? = some (some (.rdr ls n')) → RdrAt H' p ls n' := fun {σ' δ' H' n'} s e => by
    obtain ⟨v', e1, a2, rfl, h⟩ := s.env.has 0 _ e
    rw [s.par 0 hps, s0] at e1
    cases e1
    exact h
  refine ⟨_, _, e0, hs n ls a R hp, fun δ' σ' H' ⟨n', h1, h2⟩ s => q _ _ _ _ h2 (s.st.weak mp) (back s h1) Is.non, fun w δ' v σ' H' ⟨n', h1, ⟨y, hy⟩, h2⟩ s t => ?_, fun _ _ _ z => z.elim, fun _ _ _ z => z.elim⟩
  subst hy
  exact q _ _ _ _ h2 (s.st.weak mp) (back s h1) t
end
end Ib
set_option Elab.async false
set_option linter.all false
set_option autoImplicit false
set_option maxRecDepth 100000
set_option maxHeartbeats 4000000
/-! Ib5: list comprehensions. -/
namespace Ib
open PySem PySem.Spec PyProof.Rows L2 TL
variable [Tabl]

/-! ### slots forgotten -/
def wipeE (δ : DEnv) : List Nat → DEnv
  | [] => δ
  | v :: vs => (wipeE δ vs).set v none
theorem wipeE_len (δ : DEnv) : ∀ vs, (wipeE δ vs).length = δ.length
  | [] => rfl
  | v :: vs => by unfold wipeE; rw [List.length_set, wipeE_len δ vs]
theorem wipeE_out {δ : DEnv} {i : Nat} : ∀ {vs : List Nat}, i ∉ vs → (wipeE δ vs)[i]? = δ[i]?
  | [], _ => rfl
  | v :: vs, h => by
    have h1 : v ≠ i := fun e => h (by rw [e]; exact List.mem_cons_self)
    have h2 : i ∉ vs := fun m => h (List.mem_cons_of_mem _ m)
    unfold wipeE
    rw [List.getElem?_set_ne h1]
    exact wipeE_out h2
theorem wipeE_in {δ : DEnv} {i : Nat} {w : U} : ∀ {vs : List Nat}, i ∈ vs → (wipeE δ vs)[i]? ≠ some (some w)
  | v :: vs, h => by
    unfold wipeE
    by_cases e : v = i
    · subst e
      by_cases hl : v < (wipeE δ vs).length
      · rw [List.getElem?_set_self hl]; exact fun z => nomatch z
      · rw [List.getElem?_eq_none (by simpa using hl)]; exact fun z => nomatch z
    · rw [List.getElem?_set_ne e]
      exact wipeE_in ((List.mem_cons.mp h).resolve_left fun z => e z.symm)
theorem wipe_in {σ : St} {i : Nat} : ∀ {vs : List Nat}, i ∈ vs → (wipe σ vs)[i]? = if i < σ.length then some none else none
  | v :: vs, h => by
    unfold wipe
    by_cases e : v = i
    · subst e
      by_cases hl : v < σ.length
      · rw [List.getElem?_set_self (by rw [wipe_length]; exact hl), if_pos hl]
      · rw [List.getElem?_eq_none (by rw [List.length_set, wipe_length]; omega), if_neg hl]
    · rw [List.getElem?_set_ne e]
      exact wipe_in ((List.mem_cons.mp h).resolve_left fun z => e z.symm)
theorem wipe_eq {σ σ' : St} {vs : List Nat} (hl : σ'.length = σ.length) (h : ∀ k, k ∉ vs → σ'[k]? = σ[k]?) : wipe σ' vs = wipe σ vs := by
  apply List.ext_getElem?
  intro i
  by_cases hi : i ∈ vs
  · rw [wipe_in hi, wipe_in hi, hl]
  · rw [wipe_out hi, wipe_out hi, h i hi]
theorem wipe_wipe (σ : St) (vs : List Nat) : wipe (wipe σ vs) vs = wipe σ vs := wipe_eq (wipe_length σ vs) fun k hk => wipe_out hk
def Free (δ : DEnv) (vs : List Nat) : Prop := ∀ i ∈ vs, ∀ w, δ[i]? ≠ some (some w)
theorem wipeE_free (δ : DEnv) (vs : List Nat) : Free (wipeE δ vs) vs := fun i hi w => wipeE_in hi
section
variable {K : PySem.W.Frag} {σ : St} {H : Hp} {δ : DEnv} {vs : List Nat}
theorem M_wipe (f : Free δ vs) {b : Addr} : M (wipe σ vs) δ b ↔ M σ δ b := by
  constructor
  · rintro ⟨i, v, w, e1, e2, h⟩
    exact ⟨i, v, w, (wipe_some e1).1, e2, h⟩
  · rintro ⟨i, v, w, e1, e2, h⟩
    refine ⟨i, v, w, ?_, e2, h⟩
    rw [wipe_out fun hi => f i hi w e2]
    exact e1
theorem EnvOk.wiped (E : EnvOk K σ H δ) (f : Free δ vs) : EnvOk K (wipe σ vs) H δ :=
  ⟨E.tab, by rw [wipe_length]; exact E.len, fun i w e => by
    obtain ⟨v, e1, h⟩ := E.has i w e
    exact ⟨v, by rw [wipe_out fun hi => f i hi w e]; exact e1, h⟩, fun i j v w v' w' b hij q1 q2 q3 q4 => E.sep i j v w v' w' b hij (wipe_some q1).1 q2 (wipe_some q3).1 q4⟩
theorem EnvOk.unwiped (E : EnvOk K (wipe σ vs) H δ) (f : Free δ vs) : EnvOk K σ H δ :=
  ⟨E.tab, by rw [← wipe_length σ vs]; exact E.len, fun i w e => by
    obtain ⟨v, e1, h⟩ := E.has i w e
    exact ⟨v, (wipe_some e1).1, h⟩, fun i j v w v' w' b hij q1 q2 q3 q4 => E.sep i j v w v' w' b hij (by rw [wipe_out fun hi => f i hi w q2]; exact q1) q2 (by rw [wipe_out fun hi => f j hi w' q4]; exact q3) q4⟩
theorem EnvOk.forget (E : EnvOk K σ H δ) : EnvOk K (wipe σ vs) H (wipeE δ vs) := by
  have old : ∀ {i : Nat} {w : U}, (wipeE δ vs)[i]? = some (some w) → i ∉ vs ∧ δ[i]? = some (some w) := fun {i w} e => by
    have hi : i ∉ vs := fun hi => wipeE_in hi e
    rw [wipeE_out hi] at e
    exact ⟨hi, e⟩
  refine ⟨E.tab, by rw [wipe_length, wipeE_len]; exact E.len, fun i w e => ?_, fun i j v w v' w' b hij q1 q2 q3 q4 => ?_⟩
  · obtain ⟨hi, e⟩ := old e
    obtain ⟨v, e1, h⟩ := E.has i w e
    exact ⟨v, by rw [wipe_out hi]; exact e1, h⟩
  · exact E.sep i j v w v' w' b hij (wipe_some q1).1 (old q2).2 (wipe_some q3).1 (old q4).2
end
/-- slots of one shape outside vs, none in vs -/
theorem sh_of {δ δ' : DEnv} {vs : List Nat} (hl : δ'.length = δ.length) (f : Free δ vs) (f' : Free δ' vs) (h : ∀ k, k ∉ vs → (δ[k]?).map (Option.map er) = (δ'[k]?).map (Option.map er)) : Sh δ δ' := by
  unfold Sh
  apply List.ext_getElem?
  intro i
  rw [List.getElem?_map, List.getElem?_map]
  by_cases hi : i ∈ vs
  · have n : ∀ {d : DEnv}, d.length = δ.length → Free d vs → d[i]? = if i < δ.length then some none else none := fun {d} hd fd => by
      by_cases hl : i < δ.length
      · rw [if_pos hl]
        have : i < d.length := by omega
        rw [List.getElem?_eq_getElem this]
        cases q : d[i] with
        | none => rfl
        | some w => exact absurd (by rw [List.getElem?_eq_getElem this, q]) (fd i hi w)
      · rw [if_neg hl, List.getElem?_eq_none (by omega)]
    rw [n rfl f, n hl f']
  · exact h i hi

/-! ### what a comprehension walks: xs, as long as ok holds of the slots -/
abbrev DIC := DEnv → (List D → (DEnv → Prop) → DEnv → Prop) → Prop
def SrcC (K : PySem.W.Frag) (σ : St) (δ1 : DEnv) (J : It) (H1 : Hp) (xs : List D) (ok : DEnv → Prop) : Prop := ∀ δ2 H2, EnvOk K σ H2 δ2 → Stp (M σ δ1) H1 H2 → ok δ2 →
  (∀ i, i < xs.length → J.go i H2) ∧ J.stop xs.length H2 ∧ ∀ i v H3, i < xs.length → J.yld i H2 v H3 → H3 = H2 ∧ ∃ x, xs[i]? = some x ∧ Is K H2 v x
def upIC (K : PySem.W.Frag) (di : DIC) : TI := fun σ H RR => ∃ δ R, EnvOk K σ H δ ∧ di δ R ∧ ∀ xs ok δ' J H', R xs ok δ' → AR K σ δ H δ' H' → SrcC K σ δ' J H' xs ok → RR J H'
@[simp] def icT (de : DE) : DIC := fun δ R => de δ fun w δ1 => match w with
  | .d (.tup xs) => R xs (fun _ => True) δ1
  | _ => False
@[simp] def icL (de : DE) : DIC := fun δ R => de δ fun w δ1 => match w with
  | .lst xs => R xs (fun _ => True) δ1
  | .bor i => (match δ1[i]? with
    | some (some (.lst xs)) => R xs (fun δ2 => δ2[i]? = some (some (.lst xs))) δ1
    | _ => False)
  | _ => False
def signs1 (l : Cs) : List D := l.map fun c => D.str [c]
@[simp] def icS (de : DE) : DIC := fun δ R => de δ fun w δ1 => match w with
  | .d (.str l) => R (signs1 l) (fun _ => True) δ1
  | _ => False
@[simp] def icR (de : DE) : DIC := fun δ R => de δ fun w δ1 => match w with
  | .d (.int j) => -(2 ^ 62) ≤ j ∧ j < 2 ^ 62 ∧ R (rngD j.toNat) (fun _ => True) δ1
  | _ => False
section
variable {X : Cx} {tg e : Expr} {de : DE} {p pos : Pos}
theorem ic_tup (h : PE X e (up X.K de)) : PI X tg e (upIC X.K (icT de)) := PI.imp (pi_tup h) fun σ H RR ⟨δ, R, E, h, q⟩ => ⟨δ, _, E, h, fun w δ1 v H1 h1 a1 t1 => by
  cases w with
  | d x =>
    cases x with
    | tup xs =>
      cases (show Is X.K H1 v (.tup xs) from t1) with
      | tup ht hi =>
        refine ⟨_, rfl, ⟨_, ht.sq⟩, q _ _ _ _ _ h1 a1 fun δ2 H2 _ st _ => ?_⟩
        have ht2 := st.tups (fun b m => a1.env.own m) ht
        have hi2 := st.iss (fun b m => a1.env.own m) hi
        refine ⟨fun i hlt => ⟨_, _, ht2.sq, List.getElem?_eq_getElem (by rw [hi.length]; exact hlt)⟩, ⟨_, ht2.sq, by rw [hi.length]; exact Nat.le_refl _⟩, fun i v H3 _ y => ?_⟩
        obtain ⟨e, y⟩ := y
        exact ⟨e, hi2.getV (y _ ht2.sq)⟩
    | _ => exact h1.elim
  | _ => exact h1.elim⟩
theorem ic_rng {a : Expr} (hg : Gl X "range") (hm : X.mg "range" = none) (ha : PE X a (up X.K de)) (hs : starEach [a] X.env = [(false, eval a X.env)] := by rfl) : PI X tg (.Call (.Name "range" p) [a] [] pos) (upIC X.K (icR de)) :=
  PI.imp (pi_range1 hg hm (pa_cons ha pa_nil hs) hs) fun σ H RR ⟨δ, R, E, h, q⟩ => ⟨δ, _, E, h, fun w δ1 v H1 h1 a1 t1 => by
    cases w with
    | d x =>
      cases x with
      | int j =>
        cases (show Is X.K H1 v (.int j) from t1)
        exact ⟨j, rfl, h1.1, h1.2.1, q _ _ _ _ _ h1.2.2 a1 fun δ2 H2 _ _ _ => src_rng (K := X.K) (H := H2) H2 fun _ _ z => z⟩
      | _ => exact h1.elim
    | _ => exact h1.elim⟩
theorem ic_str (h : PE X e (up X.K de)) : PI X tg e (upIC X.K (icS de)) := PI.imp (pi_str h) fun σ H RR ⟨δ, R, E, h, q⟩ => ⟨δ, _, E, h, fun w δ1 v H1 h1 a1 t1 => by
  cases w with
  | d x =>
    cases x with
    | str l =>
      cases (show Is X.K H1 v (.str l) from t1)
      have hl : (signs1 l).length = l.length := by simp [signs1]
      refine ⟨S l, rfl, q _ _ _ _ _ h1 a1 fun δ2 H2 _ _ _ => ⟨fun i hlt => ?_, ?_, fun i v H3 _ y => ?_⟩⟩
      · show i < (S l).cps.size
        simpa [hl] using hlt
      · show (S l).cps.size ≤ (signs1 l).length
        simp [hl]
      · obtain ⟨e, c, ec, ev⟩ := y
        have ec : l[i]? = some c := by simpa using ec
        exact ⟨e, .str [c], by unfold signs1; rw [List.getElem?_map, ec]; rfl, by rw [ev]; exact Is.str [c]⟩
    | _ => exact h1.elim
  | _ => exact h1.elim⟩
theorem ic_lst (h : PE X e (up X.K de)) : PI X tg e (upIC X.K (icL de)) := PI.imp (pi_list h) fun σ H RR ⟨δ, R, E, h, q⟩ => ⟨δ, _, E, h, fun w δ1 v H1 h1 a1 t1 => by
  have fin : ∀ {H2 : Hp} {a : Addr} {us : List V} {xs : List D}, H2 a = some (.lst us) → Iss X.K H2 us xs → (∀ i, i < xs.length → (Itl X.K a).go i H2) ∧ (Itl X.K a).stop xs.length H2 ∧ ∀ i v H3, i < xs.length → (Itl X.K a).yld i H2 v H3 → H3 = H2 ∧ ∃ x, xs[i]? = some x ∧ Is X.K H2 v x := fun {H2 a us xs} ea hi =>
    ⟨fun i hlt => ⟨us, us[i]'(by rw [hi.length]; exact hlt), .of ea, by simp [hi.length, hlt]⟩, ⟨us, .of ea, by rw [hi.length]; exact Nat.le_refl _⟩, fun i v H3 _ y => ⟨y.1, hi.getV (y.2 us (.of ea))⟩⟩
  cases w with
  | d x => exact h1.elim
  | rdr ls n => exact h1.elim
  | lst xs =>
    obtain ⟨⟨a, us, rfl, ea, hi⟩, hf⟩ := t1
    refine ⟨a, rfl, ⟨_, .of ea⟩, q _ _ _ _ _ h1 a1 fun δ2 H2 _ st _ => fin (st.keep _ _ ea fun m => E.dom (a1.sh.symm.M m) (hf a rfl)) (st.iss (fun b m => a1.env.own m) hi)⟩
  | bor i =>
    have h1 : (match δ1[i]? with
      | some (some (.lst xs)) => R xs (fun δ2 => δ2[i]? = some (some (.lst xs))) δ1
      | _ => False) := h1
    split at h1
    · rename_i xs e1
      obtain ⟨v', e2, a, us, rfl, ea, hi⟩ := a1.env.has i _ e1
      have t2 := t1.1
      rw [e2] at t2
      cases t2
      refine ⟨a, rfl, ⟨_, .of ea⟩, q _ _ _ _ _ h1 a1 fun δ2 H2 E2 st ok => ?_⟩
      obtain ⟨v2, e3, a2, us2, rfl, ea2, hi2⟩ := E2.has i _ ok
      rw [e2] at e3
      cases e3
      exact fin ea2 hi2
    · exact h1.elim⟩
end
/-- [e for target in iter if ..]: the block's own slots vs -/
def dLc (di : DIC) (g : DG) (tt : DT) (te : DE) (vs : List Nat) : DE := fun δ R => di δ fun xs ok δ1 => ∃ Inv : Nat → List D → DEnv → Prop, Inv 0 [] δ1 ∧ (∀ i acc δ2, Inv i acc δ2 → ok δ2 ∧ Free δ2 vs) ∧
  (∀ i x acc δ2, xs[i]? = some x → Inv i acc δ2 → g x δ2 fun δ3 => tt δ3 fun b δ4 => ifB b (te δ4 fun w δ5 => (match w with
    | .d y => acc.length < sizeLine ∧ Inv (i + 1) (acc ++ [y]) (wipeE δ5 vs)
    | _ => False)) (Inv (i + 1) acc (wipeE δ4 vs))) ∧ ∀ acc δ2, Inv xs.length acc δ2 → R (.lst acc) δ2
theorem up_lc {K : PySem.W.Frag} {di : DIC} {g : DG} {tt : DT} {te : DE} {vs : List Nat} {σ : St} {H : Hp} {Q : VK} (h : up K (dLc di g tt te vs) σ H Q) : tLc (upIC K di) (upG K (fun k => k ∉ vs) g) (upT K tt) (up K te) vs σ H Q := by
  obtain ⟨δ, R, E, h, q⟩ := h
  refine ⟨δ, _, E, h, fun xs ok δ1 J H1 h1 a1 src D hD => ?_⟩
  obtain ⟨Inv, h0, hok, step, fin⟩ := h1
  refine ⟨fun i m H2 => m = xs.length - i ∧ i ≤ xs.length ∧ ∃ acc δ2 us, Inv i acc δ2 ∧ EnvOk K σ H2 δ2 ∧ Sh δ1 δ2 ∧ Stp (M σ δ1) H1 H2 ∧ H2 D = some (.lst us) ∧ Iss K H2 us acc, ⟨_, rfl, Nat.zero_le _, [], δ1, [], h0, a1.env.new hD, Sh.refl _, Stp.new hD, upd_same, .nil⟩, ?_⟩
  rintro i m H2 ⟨rfl, hle, acc, δ2, us, hI, E2, sh2, st2, eD, hi⟩
  obtain ⟨ok2, fr⟩ := hok i acc δ2 hI
  obtain ⟨go, stop, yld⟩ := src δ2 H2 E2 st2 ok2
  by_cases hlt : i < xs.length
  · refine .inr ⟨go i hlt, fun H' => i + 1 ≤ xs.length ∧ ∃ acc δ2 us, Inv (i + 1) acc δ2 ∧ EnvOk K σ H' δ2 ∧ Sh δ1 δ2 ∧ Stp (M σ δ1) H1 H' ∧ H' D = some (.lst us) ∧ Iss K H' us acc, fun H' ⟨hl', z⟩ => ⟨xs.length - (i + 1), by omega, rfl, hl', z⟩, fun v H3 y => ?_⟩
    obtain ⟨rfl, x, hx, hv⟩ := yld i v H3 hlt y
    have Ew := E2.wiped (vs := vs) fr
    -- the new list is no slot's
    have nD : ∀ b, M σ δ1 b → b ≠ D := fun b m z => by subst z; exact a1.env.dom m hD
    refine ⟨δ2, x, _, Ew, hv, step i x acc δ2 hx hI, fun δ3 σ3 h3 g3 => ⟨(wipe_eq (by rw [g3.sr.ln]) fun k hk => g3.sr.par k hk).trans (wipe_wipe σ vs), ?_⟩⟩
    have hw3 : wipe σ3 vs = wipe σ vs := (wipe_eq (by rw [g3.sr.ln]) fun k hk => g3.sr.par k hk).trans (wipe_wipe σ vs)
    have m3 : ∀ {b : Addr}, M σ3 δ3 b → M σ δ1 b ∨ H3 b = none := fun {b} m => (g3.sr.fpm b m).imp (fun z => sh2.symm.M ((M_wipe fr).mp z)) id
    have n3 : ¬ M σ3 δ3 D := fun m => by
      rcases m3 m with z | z
      · exact nD D z rfl
      · rw [eD] at z; cases z
    have tm3 : ∀ b, M σ3 δ3 b → ∃ xs, H3 b = some (.lst xs) := fun b m => g3.sr.env.own m
    refine ⟨δ3, _, g3.sr.env, h3, fun b δ4 H4 h4 a4 => ?_⟩
    -- behind a turn
    have last : ∀ {δ5 : DEnv} {H5 : Hp}, AR K σ3 δ3 H3 δ5 H5 → EnvOk K σ H5 (wipeE δ5 vs) ∧ Sh δ1 (wipeE δ5 vs) ∧ Stp (M σ δ1) H1 H5 ∧ H5 D = some (.lst us) ∧ Iss K H5 us acc := fun {δ5 H5} a5 => by
      have e5 : EnvOk K (wipe σ vs) H5 (wipeE δ5 vs) := by rw [← hw3]; exact a5.env.forget
      refine ⟨e5.unwiped (wipeE_free _ _), sh2.trans (sh_of (vs := vs) ?_ fr (wipeE_free _ _) fun k hk => ?_), st2.trans a5.st fun b m => ?_, a5.st.keep _ _ eD n3, a5.st.iss tm3 hi⟩
      · rw [wipeE_len, ← a5.sh.len, g3.dl]
      · rw [wipeE_out hk, ← g3.dk k hk]
        have := congrArg (fun z : List (Option U) => z[k]?) (show δ3.map (Option.map er) = δ5.map (Option.map er) from a5.sh)
        simpa [List.getElem?_map] using this
      · rcases m3 m with z | z
        · exact .inl z
        · exact .inr (st2.dom b z)
    cases b with
    | false =>
      have h4 : Inv (i + 1) acc (wipeE δ4 vs) := h4
      obtain ⟨l1, l2, l3, l4, l5⟩ := last a4
      exact ⟨hlt, acc, _, us, h4, l1, l2, l3, l4, l5⟩
    | true =>
      refine ⟨δ4, _, a4.env, h4, fun w δ5 v5 H5 h5 a5 t5 => ?_⟩
      cases w with
      | d y =>
        obtain ⟨hz, h5⟩ := (show acc.length < sizeLine ∧ Inv (i + 1) (acc ++ [y]) (wipeE δ5 vs) from h5)
        obtain ⟨l1, l2, l3, l4, l5⟩ := last (a4.trans a5)
        have nM : ¬ M σ (wipeE δ5 vs) D := fun m => nD D (l2.symm.M m) rfl
        have stD : Stp (fun b => b = D) H5 (upd H5 D (.lst (us ++ [v5]))) := Stp.write l4
        have tD : ∀ b, b = D → ∃ xs, H5 b = some (.lst xs) := fun b z => by subst z; exact ⟨_, l4⟩
        refine ⟨us, l4, by rw [l5.length]; exact hz, hlt, acc ++ [y], _, us ++ [v5], h5, l1.keep stD tD fun b z m => by subst z; exact nM m, l2, l3.trans stD fun b z => .inr (by subst z; exact hD), upd_same, stD.iss tD (l5.append (.cons t5 .nil))⟩
      | _ => exact h5.elim
  · have e : i = xs.length := by omega
    subst e
    refine .inl ⟨stop, q _ _ _ _ (fin acc δ2 hI) (a1.trans ⟨sh2, st2, E2⟩) ⟨⟨D, us, rfl, eD, hi⟩, fun b z => ?_⟩⟩
    have z : b = D := z
    subst z
    exact a1.st.dom _ hD
@[simp] def ttYes : DT := fun δ R => R true δ
section
variable {X : Cx} {elt tg iter c : Expr} {ifs : List Expr} {scope : Scope} {own : List (Str × Nat)} {pos : Pos} {di : DIC} {g : DG} {tt : DT} {te : DE}
theorem PTs.imp {X : Cx} {e : List Expr} {t t' : TT} (h : PTs X e t) (i : ∀ σ H Q, t' σ H Q → t σ H Q) : PTs X e t' := ⟨fun pins s σ H Q I q => h.run pins s σ H Q I (i _ _ _ q)⟩
theorem dts_nil : PTs X [] (upT X.K ttYes) := PTs.imp pts_nil fun σ H Q ⟨δ, R, E, h, q⟩ => q _ _ _ h (AR.refl E)
theorem dts_one (h : PT X c (upT X.K tt)) : PTs X [c] (upT X.K tt) := pts_one h
theorem de_lc (hc : X.calm = true) (hN : X.N.Nodup) (hi : PI X tg iter (upIC X.K di)) (ok : BlkOk X.N X.env.scope scope own)
    (hg : ∀ (s : Shared) (H : Hp) (C : Addr) (cl : List (Str × Addr)) (fp : List Addr), PG (X.blk s H scope (compEnvC scope cl C X.env) fp) tg (upG X.K (fun k => k ∉ own.map (·.2)) g))
    (ht : ∀ (s : Shared) (H : Hp) (C : Addr) (cl : List (Str × Addr)) (fp : List Addr), PTs (X.blk s H scope (compEnvC scope cl C X.env) fp) ifs (upT X.K tt))
    (he : ∀ (s : Shared) (H : Hp) (C : Addr) (cl : List (Str × Addr)) (fp : List Addr), PE (X.blk s H scope (compEnvC scope cl C X.env) fp) elt (up X.K te)) (hs : ∀ x, foldedSetIterable iter X.env x = pure x := by intro _; rfl) :
    PE X (.ListComp elt [⟨tg, iter, ifs, 0⟩] scope pos) (up X.K (dLc di g tt te (own.map (·.2)))) := PE.imp (pe_lc hc hN hi ok hg ht he hs) fun _ _ _ h => up_lc h
/-- name = [..] on one line -/
theorem ds_setLc {i : Nat} {y : Str} {py spos : Pos} {np : Nat → Prop} (hp : ¬ np i) (hc : X.calm = true) (hN : X.N.Nodup) (hy : X.N[i]? = some y) (hyl : X.env.scope.names.lookup y = some .local)
    (hsw : swapsWith (.ListComp elt [⟨tg, iter, ifs, 0⟩] scope pos) (some (.Name y py)) spos.line X.env = pure true) (hi : PI X tg iter (upIC X.K di)) (ok : BlkOk X.N X.env.scope scope own)
    (hg : ∀ (s : Shared) (H : Hp) (C : Addr) (cl : List (Str × Addr)) (fp : List Addr), PG (X.blk s H scope (compEnvC scope cl C X.env) fp) tg (upG X.K (fun k => k ∉ own.map (·.2)) g))
    (ht : ∀ (s : Shared) (H : Hp) (C : Addr) (cl : List (Str × Addr)) (fp : List Addr), PTs (X.blk s H scope (compEnvC scope cl C X.env) fp) ifs (upT X.K tt))
    (he : ∀ (s : Shared) (H : Hp) (C : Addr) (cl : List (Str × Addr)) (fp : List Addr), PE (X.blk s H scope (compEnvC scope cl C X.env) fp) elt (up X.K te)) (hs : ∀ x, foldedSetIterable iter X.env x = pure x := by intro _; rfl) :
    PS X (.Assign [.Name y py] (.ListComp elt [⟨tg, iter, ifs, 0⟩] scope pos) spos) (upS X.K np (sSet (dLc di g tt te (own.map (·.2))) i)) :=
  PS.imp (ps_setLc hc hN hy hyl hsw hi ok hg ht he hs) fun D σ H ⟨δ, R, E, h, q1, q2, q3, q4⟩ => up_lc ⟨δ, _, E, h, fun w δ1 v H1 h1 a1 t1 => by
    cases w with
    | bor j => exact h1.elim
    | d x => exact q1 _ _ _ h1 (sr_set E hp a1 t1 fun _ z => nomatch z)
    | lst x => exact q1 _ _ _ h1 (sr_set E hp a1 t1 fun _ z => nomatch z)
    | rdr x n => exact q1 _ _ _ h1 (sr_set E hp a1 t1 fun _ z => nomatch z)⟩
end
end Ib
set_option Elab.async false
set_option linter.all false
set_option autoImplicit false
set_option maxRecDepth 100000
set_option maxHeartbeats 4000000
/-! Ib6: plain words for readings: indices, slices, comprehensions whose elements are a function's values, loops. -/
namespace Ib
open PySem PySem.Spec PyProof.Rows L2 TL
variable [Tabl]
mutual
/-- small data: texts and tuples of at most a thousand -/
def Sm : D → Prop
  | .str l => l.length ≤ 1000
  | .tup xs => xs.length ≤ 1000 ∧ Sms xs
  | _ => True
def Sms : List D → Prop
  | [] => True
  | x :: xs => Sm x ∧ Sms xs
end
theorem Sms.get : ∀ {xs : List D} {i : Nat} {x : D}, Sms xs → xs[i]? = some x → Sm x
  | [], _, _, _, e => by simp at e
  | y :: r, 0, x, h, e => by
    simp at e
    subst e
    rw [Sms] at h
    exact h.1
  | y :: r, i + 1, x, h, e => by
    rw [Sms] at h
    exact Sms.get h.2 (by simpa using e)
theorem Sms.mem {xs : List D} {x : D} (h : Sms xs) (m : x ∈ xs) : Sm x := by
  obtain ⟨i, hi⟩ := List.getElem?_of_mem m
  exact h.get hi
@[simp] theorem Sm_str (l : Cs) : Sm (.str l) = (l.length ≤ 1000) := by rw [Sm]
@[simp] theorem Sm_tup (xs : List D) : Sm (.tup xs) = (xs.length ≤ 1000 ∧ Sms xs) := by rw [Sm]
@[simp] theorem Sm_int (i : Int) : Sm (.int i) = True := by simp [Sm]
@[simp] theorem Sm_bl (i : Bool) : Sm (.bl i) = True := by simp [Sm]
@[simp] theorem Sm_non : Sm .non = True := by simp [Sm]
@[simp] theorem Sms_nil : Sms [] = True := by rw [Sms]
@[simp] theorem Sms_cons (x : D) (xs : List D) : Sms (x :: xs) = (Sm x ∧ Sms xs) := by rw [Sms]
theorem Sms_of {xs : List D} (h : ∀ x ∈ xs, Sm x) : Sms xs := by
  induction xs with
  | nil => simp
  | cons x r ih => rw [Sms_cons]; exact ⟨h x (by simp), ih fun y hy => h y (by simp [hy])⟩
theorem thou {n : Nat} (h : n ≤ 1000) : n ≤ sizeLine := by rw [sizeLine_eq]; omega
theorem mill {n : Nat} (h : n ≤ 1000000) : n ≤ sizeLine := by rw [sizeLine_eq]; omega
theorem thou1 {n : Nat} (h : n ≤ 1000) : n < sizeLine := by rw [sizeLine_eq]; omega

@[simp] theorem atI_zero {α : Type} (x : α) (r : List α) : atI (x :: r) 0 = some x := atI_nat (xs := x :: r) (j := 0) (v := x) rfl
@[simp] theorem atI_1 {α : Type} (x y : α) (r : List α) : atI (x :: y :: r) 1 = some y := atI_nat (xs := x :: y :: r) (j := 1) rfl
@[simp] theorem atI_2 {α : Type} (x y z : α) (r : List α) : atI (x :: y :: z :: r) 2 = some z := atI_nat (xs := x :: y :: z :: r) (j := 2) rfl
@[simp] theorem atI_3 {α : Type} (x y z a : α) (r : List α) : atI (x :: y :: z :: a :: r) 3 = some a := atI_nat (xs := x :: y :: z :: a :: r) (j := 3) rfl
@[simp] theorem atI_4 {α : Type} (x y z a b : α) (r : List α) : atI (x :: y :: z :: a :: b :: r) 4 = some b := atI_nat (xs := x :: y :: z :: a :: b :: r) (j := 4) rfl
@[simp] theorem atI_5 {α : Type} (x y z a b c : α) (r : List α) : atI (x :: y :: z :: a :: b :: c :: r) 5 = some c := atI_nat (xs := x :: y :: z :: a :: b :: c :: r) (j := 5) rfl
@[simp] theorem atI_6 {α : Type} (x y z a b c d : α) (r : List α) : atI (x :: y :: z :: a :: b :: c :: d :: r) 6 = some d := atI_nat (xs := x :: y :: z :: a :: b :: c :: d :: r) (j := 6) rfl
theorem cutD_from {α : Type} (l : List α) (k : Nat) : cutD l (some (k : Int)) none = l.drop k := by
  unfold cutD
  rw [HT.sIx_nat, HT.sIx_none]
  by_cases h : k ≤ l.length
  · rw [Nat.min_eq_left h, List.take_of_length_le (by rw [List.length_drop]; exact Nat.le_refl _)]
  · rw [Nat.min_eq_right (by omega), Nat.sub_self, List.take_zero, List.drop_of_length_le (by omega)]
theorem cutD_to {α : Type} (l : List α) (k : Nat) : cutD l none (some (k : Int)) = l.take k := by
  unfold cutD
  rw [HT.sIx_nat, HT.sIx_none, List.drop_zero, Nat.sub_zero]
  by_cases h : k ≤ l.length
  · rw [Nat.min_eq_left h]
  · rw [Nat.min_eq_right (by omega), List.take_of_length_le (by omega), List.take_of_length_le (by omega)]
theorem cutD_mid {α : Type} (l : List α) (i j : Nat) : cutD l (some (i : Int)) (some (j : Int)) = (l.drop i).take (j - i) := by
  unfold cutD
  rw [HT.sIx_nat, HT.sIx_nat]
  by_cases h : i ≤ l.length
  · rw [Nat.min_eq_left h]
    by_cases h2 : j ≤ l.length
    · rw [Nat.min_eq_left h2]
    · rw [Nat.min_eq_right (by omega), List.take_of_length_le (by rw [List.length_drop]; exact Nat.le_refl _), List.take_of_length_le (by rw [List.length_drop]; omega)]
  · rw [List.drop_of_length_le (i := i) (by omega), List.drop_of_length_le (by rw [Nat.min_eq_right (by omega)]; exact Nat.le_refl _), List.take_nil, List.take_nil]
@[simp] theorem cutD_1 {α : Type} (l : List α) : cutD l (some 1) none = l.drop 1 := cutD_from l 1
@[simp] theorem cutD_2 {α : Type} (l : List α) : cutD l (some 2) none = l.drop 2 := cutD_from l 2
@[simp] theorem cutD_3 {α : Type} (l : List α) : cutD l (some 3) none = l.drop 3 := cutD_from l 3
@[simp] theorem cutD_t1 {α : Type} (l : List α) : cutD l none (some 1) = l.take 1 := cutD_to l 1
@[simp] theorem cutD_t3 {α : Type} (l : List α) : cutD l none (some 3) = l.take 3 := cutD_to l 3
@[simp] theorem cutD_t4 {α : Type} (l : List α) : cutD l none (some 4) = l.take 4 := cutD_to l 4
@[simp] theorem cutD_t6 {α : Type} (l : List α) : cutD l none (some 6) = l.take 6 := cutD_to l 6
@[simp] theorem sIx_no (n d : Nat) : HT.sIx n d none = d := rfl
@[simp] theorem sIx_1 (n d : Nat) : HT.sIx n d (some 1) = min 1 n := HT.sIx_nat n d 1
@[simp] theorem sIx_2 (n d : Nat) : HT.sIx n d (some 2) = min 2 n := HT.sIx_nat n d 2
@[simp] theorem sIx_3 (n d : Nat) : HT.sIx n d (some 3) = min 3 n := HT.sIx_nat n d 3
@[simp] theorem sIx_4 (n d : Nat) : HT.sIx n d (some 4) = min 4 n := HT.sIx_nat n d 4
@[simp] theorem sIx_6 (n d : Nat) : HT.sIx n d (some 6) = min 6 n := HT.sIx_nat n d 6
theorem free1 {δ : DEnv} {i : Nat} (h : δ[i]? = some none) : Free δ [i] := fun j hj w => by
  have e : j = i := by simpa using hj
  subst e
  rw [h]
  exact fun z => nomatch z
theorem free2 {δ : DEnv} {i j : Nat} (h : δ[i]? = some none) (h' : δ[j]? = some none) : Free δ [i, j] := fun k hk w => by
  rcases (by simpa using hk : k = i ∨ k = j) with rfl | rfl
  · rw [h]; exact fun z => nomatch z
  · rw [h']; exact fun z => nomatch z
/-- each item's element is a function's value -/
theorem dLc_map {di : DIC} {g : DG} {te : DE} {vs : List Nat} {δ : DEnv} {xs : List D} {ok : DEnv → Prop} {R : U → DEnv → Prop} (f : D → D) (hd : ∀ R' : List D → (DEnv → Prop) → DEnv → Prop, R' xs ok δ → di δ R') (hok : ok δ) (hf : Free δ vs) (hz : xs.length ≤ sizeLine)
    (h : ∀ x ∈ xs, ∀ P : U → DEnv → Prop, (∀ δ5, wipeE δ5 vs = δ → P (.d (f x)) δ5) → g x δ fun δ3 => te δ3 P) (hR : R (.lst (xs.map f)) δ) : dLc di g ttYes te vs δ R := by
  refine hd _ ⟨fun i acc δ2 => δ2 = δ ∧ i ≤ xs.length ∧ acc = (xs.take i).map f, ⟨rfl, Nat.zero_le _, rfl⟩, ?_, ?_, ?_⟩
  · rintro i acc δ2 ⟨rfl, _, _⟩
    exact ⟨hok, hf⟩
  · rintro i x acc δ2 hx ⟨rfl, hi, rfl⟩
    have hlt : i < xs.length := (List.getElem?_eq_some_iff.mp hx).1
    refine h x (List.mem_of_getElem? hx) _ fun δ5 h5 => ⟨by rw [List.length_map, List.length_take]; omega, h5, hlt, ?_⟩
    rw [List.take_add_one, hx, List.map_append]
    rfl
  · rintro acc δ2 ⟨rfl, _, rfl⟩
    rw [List.take_length]
    exact hR
/-- .. with a test -/
theorem dLc_filter {di : DIC} {g : DG} {tt : DT} {te : DE} {vs : List Nat} {δ : DEnv} {xs : List D} {ok : DEnv → Prop} {R : U → DEnv → Prop} (p : D → Bool) (f : D → D) (hd : ∀ R' : List D → (DEnv → Prop) → DEnv → Prop, R' xs ok δ → di δ R') (hok : ok δ) (hf : Free δ vs) (hz : xs.length ≤ sizeLine)
    (h : ∀ x ∈ xs, ∀ P : Bool → DEnv → Prop, (∀ δ5, wipeE δ5 vs = δ → (p x = true → ∀ P' : U → DEnv → Prop, (∀ δ6, wipeE δ6 vs = δ → P' (.d (f x)) δ6) → te δ5 P') → P (p x) δ5) → g x δ fun δ3 => tt δ3 P) (hR : R (.lst ((xs.filter p).map f)) δ) : dLc di g tt te vs δ R := by
  refine hd _ ⟨fun i acc δ2 => δ2 = δ ∧ i ≤ xs.length ∧ acc = ((xs.take i).filter p).map f, ⟨rfl, Nat.zero_le _, rfl⟩, ?_, ?_, ?_⟩
  · rintro i acc δ2 ⟨rfl, _, _⟩
    exact ⟨hok, hf⟩
  · rintro i x acc δ2 hx ⟨rfl, hi, rfl⟩
    have hlt : i < xs.length := (List.getElem?_eq_some_iff.mp hx).1
    have hz2 : (((xs.take i).filter p).map f).length < sizeLine := by
      rw [List.length_map]
      have := List.length_filter_le p (xs.take i)
      rw [List.length_take] at this
      omega
    refine h x (List.mem_of_getElem? hx) _ fun δ5 h5 go => ?_
    cases hp : p x with
    | true =>
      refine go hp _ fun δ6 h6 => ⟨hz2, h6, hlt, ?_⟩
      rw [List.take_add_one, hx, List.filter_append, List.map_append]
      simp [hp]
    | false =>
      refine ⟨h5, hlt, ?_⟩
      rw [List.take_add_one, hx, List.filter_append, List.map_append]
      simp [hp]
  · rintro acc δ2 ⟨rfl, _, rfl⟩
    rw [List.take_length]
    exact hR
theorem mem_signs1 {l : Cs} {x : D} (h : x ∈ signs1 l) : ∃ c, c ∈ l ∧ x = .str [c] := by
  obtain ⟨c, h1, h2⟩ := List.mem_map.mp h
  exact ⟨c, h1, h2.symm⟩
@[simp] theorem signs1_len (l : Cs) : (signs1 l).length = l.length := by simp [signs1]
theorem mem_rngD {n : Nat} {x : D} (h : x ∈ rngD n) : ∃ i : Nat, i < n ∧ x = .int (i : Nat) := by
  obtain ⟨i, h1, h2⟩ := List.mem_map.mp h
  exact ⟨i, by simpa using h1, h2.symm⟩
theorem nbT {b : Bool} (h : (!b) = true) : b = false := by cases b; rfl; cases h
theorem nbF {b : Bool} (h : (!b) = false) : b = true := by cases b; cases h; rfl
theorem retV {de : DE} {R : DEnds} {δ : DEnv} (h : de δ R.rt) : sRet de R δ := h
theorem seqV {a b : DS} {R : DEnds} {δ : DEnv} (h : a { R with nx := b R } δ) : sSeq a b R δ := h
/-! ### guards: if test: return False -/
theorem guardF {c : DT} {rest : DS} {R : DEnds} {δ : DEnv} (b : Bool) (hc : ∀ P : Bool → DEnv → Prop, P b δ → c δ P) (h1 : b = true → R.rt (.d (.bl false)) δ) (h2 : b = false → rest R δ) : sSeq (sIf c (sRet (dC (.bl false))) sNext) rest R δ :=
  hc _ (ifB_of h1 h2)
theorem orT {a b : DT} {δ : DEnv} {P : Bool → DEnv → Prop} (x y : Bool) (ha : ∀ P : Bool → DEnv → Prop, P x δ → a δ P) (hb : x = false → ∀ P : Bool → DEnv → Prop, P y δ → b δ P) (h : P (x || y) δ) : dOr a b δ P :=
  ha _ (by
    cases x with
    | true => exact h
    | false => exact hb rfl _ h)
theorem andT {a b : DT} {δ : DEnv} {P : Bool → DEnv → Prop} (x y : Bool) (ha : ∀ P : Bool → DEnv → Prop, P x δ → a δ P) (hb : x = true → ∀ P : Bool → DEnv → Prop, P y δ → b δ P) (h : P (x && y) δ) : dAnd a b δ P :=
  ha _ (by
    cases x with
    | false => exact h
    | true => exact hb rfl _ h)
theorem notT {a : DT} {δ : DEnv} {P : Bool → DEnv → Prop} (x : Bool) (ha : ∀ P : Bool → DEnv → Prop, P x δ → a δ P) (h : P (!x) δ) : dNot a δ P := ha _ h
theorem orV {a b : DE} {δ : DEnv} {P : U → DEnv → Prop} (x y : Bool) (ha : ∀ P : U → DEnv → Prop, P (.d (.bl x)) δ → a δ P) (hb : x = false → ∀ P : U → DEnv → Prop, P (.d (.bl y)) δ → b δ P) (h : P (.d (.bl (x || y))) δ) : dOrV a b δ P :=
  ha _ (by
    cases x with
    | true => exact h
    | false => exact hb rfl _ h)
theorem andV {a b : DE} {δ : DEnv} {P : U → DEnv → Prop} (x y : Bool) (ha : ∀ P : U → DEnv → Prop, P (.d (.bl x)) δ → a δ P) (hb : x = true → ∀ P : U → DEnv → Prop, P (.d (.bl y)) δ → b δ P) (h : P (.d (.bl (x && y))) δ) : dAndV a b δ P :=
  ha _ (by
    cases x with
    | false => exact h
    | true => exact hb rfl _ h)
theorem bT {a : DE} {δ : DEnv} {P : Bool → DEnv → Prop} (x : Bool) (ha : ∀ P : U → DEnv → Prop, P (.d (.bl x)) δ → a δ P) (h : P x δ) : dB a δ P := ha _ h
/-- all of a comprehension of tests -/
theorem allLc {di : DIC} {g : DG} {te : DE} {vs : List Nat} {δ : DEnv} {xs : List D} {ok : DEnv → Prop} {P : U → DEnv → Prop} (f : D → Bool) (hd : ∀ R' : List D → (DEnv → Prop) → DEnv → Prop, R' xs ok δ → di δ R') (hok : ok δ) (hf : Free δ vs) (hz : xs.length ≤ sizeLine)
    (h : ∀ x ∈ xs, ∀ P : U → DEnv → Prop, (∀ δ5, wipeE δ5 vs = δ → P (.d (.bl (f x))) δ5) → g x δ fun δ3 => te δ3 P) (hR : P (.d (.bl (xs.all f))) δ) : dCB (vOne fAll) (dCons (dLc di g ttYes te vs) dNil) δ P := by
  simp only [dCB, dCons]
  refine dLc_map (fun x => .bl (f x)) hd hok hf hz h ?_
  simp only [dNil, vOne, fAll, lstU, Option.bind_some, bsOf_map, List.all_map]
  exact hR

end Ib
set_option Elab.async false
set_option linter.all false
set_option autoImplicit false
set_option maxRecDepth 100000
set_option maxHeartbeats 4000000
/-! Ib7: len({x: True for x in xs}): how many of xs differ. -/
namespace Ib
open PySem PySem.Spec PyProof.Rows L2 TL
variable [Tabl]

/-! ### data as keys -/
mutual
def nk : D → NestedKey
  | .non => .none
  | .bl b => .num (if b = true then 1 else 0)
  | .int i => .num i
  | .str x => .text (S x)
  | .tup xs => .tup (nks xs)
def nks : List D → List NestedKey
  | [] => []
  | x :: xs => nk x :: nks xs
end
mutual
theorem nested_of {X : Cx} {pins : List (Addr × Obj)} {σ : St} {H : Hp} {s : Shared} (I : L2.Inv X pins σ H s) : ∀ (d : D) {v : V} {u : Value}, Is X.K H v d → RelV v u → NestedIs s.heap (nk d) u
  | .non, _, _, h, r => by cases h; cases r; exact .none
  | .bl b, _, _, h, r => by cases h; cases r; exact .bool rfl
  | .int i, _, _, h, r => by cases h; obtain ⟨t, rfl⟩ := r; exact .int i t
  | .str x, _, _, h, r => by cases h; obtain ⟨t, rfl⟩ := r; exact .text _ t
  | .tup xs, _, _, h, r => by
    cases h with
    | tup ht hi =>
      cases r
      obtain ⟨its, n, rv, _, e⟩ := ht.obj I
      exact .tup e rfl rfl (by simpa using nestedAll_of I xs hi rv)
theorem nestedAll_of {X : Cx} {pins : List (Addr × Obj)} {σ : St} {H : Hp} {s : Shared} (I : L2.Inv X pins σ H s) : ∀ (ds : List D) {vs : List V} {us : List Value}, Iss X.K H vs ds → Vals vs us → NestedAll s.heap (nks ds) us
  | [], _, _, h, r => by cases h; cases r; exact .nil
  | d :: ds, _, _, h, r => by
    cases h with
    | cons h1 h2 =>
      cases r with
      | cons r1 r2 => exact .cons (nested_of I d h1 r1) (nestedAll_of I ds h2 r2)
end
mutual
/-- no bools within -/
def noB : D → Bool
  | .bl _ => false
  | .tup xs => noBs xs
  | _ => true
def noBs : List D → Bool
  | [] => true
  | x :: xs => noB x && noBs xs
end
mutual
theorem nk_inj : ∀ (a b : D), noB a = true → noB b = true → nk a = nk b → a = b
  | .non, b, _, hb, e => by cases b <;> simp_all [nk, noB]
  | .bl x, b, ha, hb, e => by simp [noB] at ha
  | .int i, b, _, hb, e => by cases b <;> simp_all [nk, noB]
  | .str x, b, _, hb, e => by
    cases b with
    | str y => simp only [nk, NestedKey.text.injEq] at e; rw [S_inj e]
    | _ => simp_all [nk, noB]
  | .tup xs, b, ha, hb, e => by
    cases b with
    | tup ys =>
      simp only [nk, NestedKey.tup.injEq] at e
      rw [nks_inj xs ys (by simpa [noB] using ha) (by simpa [noB] using hb) e]
    | _ => simp_all [nk, noB]
theorem nks_inj : ∀ (a b : List D), noBs a = true → noBs b = true → nks a = nks b → a = b
  | [], b, _, hb, e => by
    cases b with
    | nil => rfl
    | cons y ys => simp [nks] at e
  | x :: xs, b, ha, hb, e => by
    cases b with
    | nil => simp [nks] at e
    | cons y ys =>
      simp only [nks, List.cons.injEq] at e
      simp only [noBs, Bool.and_eq_true] at ha hb
      rw [nk_inj x y ha.1 hb.1 e.1, nks_inj xs ys ha.2 hb.2 e.2]
end
/-- keys put in one by one -/
def insK {κ : Type} [DecidableEq κ] (ks : List κ) (k : κ) : List κ := if k ∈ ks then ks else ks ++ [k]
theorem insK_len {κ : Type} [DecidableEq κ] : ∀ (l acc : List κ), (l.foldl insK acc).length ≤ acc.length + l.length ∧ ((l.foldl insK acc).length = acc.length + l.length ↔ l.Nodup ∧ ∀ x ∈ l, x ∉ acc)
  | [], acc => by simp
  | x :: r, acc => by
    have ih := insK_len r (insK acc x)
    simp only [List.foldl_cons, List.length_cons]
    by_cases hx : x ∈ acc
    · have e : insK acc x = acc := if_pos hx
      rw [e] at ih ⊢
      refine ⟨by omega, fun h => ?_, fun h => absurd hx (h.2 x (by simp))⟩
      omega
    · have e : insK acc x = acc ++ [x] := if_neg hx
      rw [e] at ih ⊢
      rw [List.length_append, List.length_singleton] at ih
      refine ⟨by omega, fun h => ?_, fun h => ?_⟩
      · obtain ⟨h1, h2⟩ := ih.2.mp (by omega)
        refine ⟨List.nodup_cons.mpr ⟨fun m => h2 x m (by simp), h1⟩, fun y hy => ?_⟩
        rcases List.mem_cons.mp hy with rfl | hy
        · exact hx
        · exact fun m => h2 y hy (by simp [m])
      · obtain ⟨h1, h2⟩ := h
        obtain ⟨h3, h4⟩ := List.nodup_cons.mp h1
        have := ih.2.mpr ⟨h4, fun y hy m => by
          rcases List.mem_append.mp m with m | m
          · exact h2 y (by simp [hy]) m
          · have : y = x := by simpa using m
            subst this
            exact h3 hy⟩
        omega
theorem insK_nodup {κ : Type} [DecidableEq κ] (l : List κ) : (l.foldl insK []).length = l.length ↔ l.Nodup := by
  have := (insK_len l []).2
  simp only [List.length_nil, Nat.zero_add] at this
  rw [this]
  simp

/-! ### the dict at D while it is made: what may stand there is told by St -/
/-- how a pair is put into the dict at D -/
structure PutR (X : Cx) (pt : Hp → Addr → V → V → (HO → Prop) → Prop) : Prop where
  run : ∀ {pins : List (Addr × Obj)} {σ : St} {H : Hp} {s : Shared} {E : Value → Shared → Prop} {D : Addr} {y z : V} {u r : Value} {G : HO → Prop} {Q : Unit → Shared → Prop},
  L2.Inv X pins σ H s → RelV y u → RelV z r → pt H D y z G → (∀ o, G o → ∀ s', L2.Inv X pins σ (upd H D o) s' → Q () s') → wpAny (model X.prog X.w) X.A (dictSet D u r) Q E s
section
variable {X : Cx}
def tDcG (wi : TI) (g : TG) (tk tv : TE) (vs : List Nat) (o0 : Addr → HO) (pt : Hp → Addr → V → V → (HO → Prop) → Prop) : TE := fun σ H Q => wi σ H fun J H1 => ∀ D, H1 D = none → ∃ W : Nat → Nat → Hp → Prop, (∃ m, W 0 m (upd H1 D (o0 D))) ∧ ∀ i m H, W i m H →
  (J.stop i H ∧ Q (.ref D) H) ∨ (J.go i H ∧ ∃ Nx : Hp → Prop, (∀ H', Nx H' → ∃ m', m' < m ∧ W (i + 1) m' H') ∧ ∀ x H', J.yld i H x H' → g x (wipe σ vs) H' fun σ2 H2 => wipe σ2 vs = wipe σ vs ∧
    tk σ2 H2 fun y H4 => tv σ2 H4 fun z H5 => pt H5 D y z fun o => Nx (upd H5 D o))
theorem dcg_core {pins : List (Addr × Obj)} {s : Shared} {σ : St} {H : Hp} {Q : VK} {kx vx tg iter : Expr} {scope : Scope} {own : List (Str × Nat)} {pos pos' : Pos} {wi : TI} {g : TG} {tk tv : TE} {o0 : Addr → HO} {pt : Hp → Addr → V → V → (HO → Prop) → Prop} {use : Option (Value → Sem Unit)} {Qf : Value → Shared → Prop}
    (hc : X.calm = true) (hN : X.N.Nodup) (I : L2.Inv X pins σ H s) (hi : PI X tg iter wi) (ok : BlkOk X.N X.env.scope scope own)
    (hg : ∀ (s : Shared) (H : Hp) (C : Addr) (cl : List (Str × Addr)) (fp : List Addr), PG (X.blk s H scope (compEnvC scope cl C X.env) fp) tg g)
    (hk : ∀ (s : Shared) (H : Hp) (C : Addr) (cl : List (Str × Addr)) (fp : List Addr), PE (X.blk s H scope (compEnvC scope cl C X.env) fp) kx tk)
    (he : ∀ (s : Shared) (H : Hp) (C : Addr) (cl : List (Str × Addr)) (fp : List Addr), PE (X.blk s H scope (compEnvC scope cl C X.env) fp) vx tv) (hs : ∀ x, foldedSetIterable iter X.env x = pure x)
    (hp : ∀ (s : Shared) (H : Hp) (C : Addr) (cl : List (Str × Addr)) (fp : List Addr), PutR (X.blk s H scope (compEnvC scope cl C X.env) fp) pt)
    (h0 : ∀ (h : Heap) (H' : Hp), sysModules < h.objs.size → ObjOk X.prog X.w H' (h.push { cls := .type "dict", data := .dict #[] }) h.objs.size (o0 h.objs.size))
    (h : tDcG wi g tk tv (own.map (·.2)) o0 pt σ H Q)
    (hRR : ∀ D C s' m H', L2.Inv X pins σ H' s' → Q (.ref D) H' → s'.heap.Ns C m → FpOk X pins H' C → compPost (model X.prog X.w) X.A X.xe use Qf (.ref D) C (.ok .next) s') :
    wpAny (model X.prog X.w) X.A (comprehension (.DictComp kx vx [⟨tg, iter, [], 0⟩] scope pos) scope X.env pos' newDict false (eval iter X.env) use) Qf X.xe s := by
  have cellsAt : ∀ y ∈ scope.names, y.2 = .free → ∃ c, X.env.cells.lookup y.1 = some c := fun y hy e => (ok.free y hy e).elim (fun z => I.ok.has _ (.inl z)) fun z => I.ok.has _ (.inr z)
  refine wpAny_comprehension_free (use := use) rfl hs (closure_ok cellsAt) ok.kind (fun y hy e => by rw [ok.uniq y hy, e])
    (thn (hi.run pins s σ H _ I h) fun xv sa hx => thn hx fun itv sb hb => ?_)
  obtain ⟨it, fp, tn, J, Hb, e, Ib, T, stb, fb, q⟩ := hb
  subst e
  refine wpAny_newObj_type (newEnv_comp ?_)
  generalize hD : sb.heap.objs.size = D
  have freeD : Hb D = none := Ib.hok.fresh (Nat.le_of_eq hD)
  obtain ⟨W, ⟨mz, wz⟩, turn⟩ := q D freeD
  generalize es3 : ({ sb with heap := sb.heap.push { cls := .type "dict", data := .dict #[] } } : Shared) = s3
  have I3 : L2.Inv X pins σ (upd Hb D (o0 D)) s3 := by
    rw [← es3]
    refine Ib.laid (t' := sb.toks) (fun b o z => Heap.get?_push_of_some _ z) (Nat.le_of_eq hD) ?_
    subst hD
    exact h0 sb.heap _ Ib.big
  have heap3 : s3.heap = sb.heap.push { cls := .type "dict", data := .dict #[] } := by rw [← es3]
  have low : ∀ b ∈ fp, b < sb.heap.objs.size := fun b z => by
    obtain ⟨o, z2, _⟩ := T.obj _ _ stb b z
    exact Heap.lt_size z2
  have f3 : ∀ b ∈ fp, FpOk X pins (upd Hb D (o0 D)) b ∧ b < s3.heap.objs.size := fun b z => by
    have lt := low b z
    refine ⟨⟨?_, (fb b z).2⟩, by rw [heap3, Heap.size_push]; exact Nat.lt_succ_of_lt lt⟩
    rw [upd_ne (by rw [← hD]; exact Nat.ne_of_lt lt)]
    exact (fb b z).1
  have st3 : tn 0 s3.heap := T.keep _ _ _ stb fun b _ o z => by rw [heap3]; exact Heap.get?_push_of_some _ z
  have I4 := block_start I3 ok hN f3
  have pg := hg s3 (upd Hb D (o0 D)) s3.heap.objs.size (cellsFrom (s3.heap.objs.size + 1) scope.names (cloFrom X.env.cells scope.names [])) fp
  have pk := hk s3 (upd Hb D (o0 D)) s3.heap.objs.size (cellsFrom (s3.heap.objs.size + 1) scope.names (cloFrom X.env.cells scope.names [])) fp
  have pv := he s3 (upd Hb D (o0 D)) s3.heap.objs.size (cellsFrom (s3.heap.objs.size + 1) scope.names (cloFrom X.env.cells scope.names [])) fp
  have pp := hp s3 (upd Hb D (o0 D)) s3.heap.objs.size (cellsFrom (s3.heap.objs.size + 1) scope.names (cloFrom X.env.cells scope.names [])) fp
  show codeAny _ _ (.compStart (.DictComp kx vx [⟨tg, iter, [], 0⟩] scope pos) 0 (.ref it) (.ref D) (compEnvC scope (cellsFrom (s3.heap.objs.size + 1) scope.names (cloFrom X.env.cells scope.names [])) s3.heap.objs.size X.env)) (compPost (model X.prog X.w) X.A X.xe use Qf (.ref D) s3.heap.objs.size) { s3 with heap := pushCells (s3.heap.push { cls := .type "dict", data := .dict #[] }) scope.names }
  have nf : ∀ b ∈ fp, (upd Hb D (o0 D)) b = none := fun b z => (f3 b z).1.1
  generalize ece : compEnvC scope (cellsFrom (s3.heap.objs.size + 1) scope.names (cloFrom X.env.cells scope.names [])) s3.heap.objs.size X.env = ce at I4 pg pk pv pp ⊢
  have cL : ce.locals = s3.heap.objs.size := by subst ece; rfl
  generalize eH3 : upd Hb D (o0 D) = H3 at I3 I4 pg pk pv pp wz nf f3
  generalize es4 : ({ s3 with heap := pushCells (s3.heap.push { cls := .type "dict", data := .dict #[] }) scope.names } : Shared) = s4 at I4 ⊢
  have st4 : tn 0 s4.heap := T.keep _ _ _ st3 fun b _ o z => by rw [← es4]; exact pushCells_keeps _ _ _ _ (Heap.get?_push_of_some _ z)
  have still : ∀ {σ' : St} {H' : Hp} {s' : Shared}, L2.Inv (X.blk s3 H3 scope ce fp) [] σ' H' s' → (∀ b ∈ fp, H' b = none) → ∀ b ∈ fp, FpOk (X.blk s3 H3 scope ce fp) [] H' b := fun {σ' H' s'} I' hn b hb =>
    ⟨hn b hb, (I'.ok.exf b hb).1, I'.ok.exfs b hb, .inl hb, fun x c z => (I'.ok.exf b hb).2 x c z, fun p hp => absurd (show p ∈ ([] : List (Addr × Obj)) ++ [] from hp) (by simp)⟩
  have loop : codeAny (model X.prog X.w) X.A (.compLoop (.DictComp kx vx [⟨tg, iter, [], 0⟩] scope pos) 0 (.ref it) (.ref D) ce) (compPost (model X.prog X.w) X.A X.xe use Qf (.ref D) s3.heap.objs.size) s4 := by
    refine compLoop_anyD (fun n s' => ∃ i H', L2.Inv (X.blk s3 H3 scope ce fp) [] (wipe σ (own.map (·.2))) H' s' ∧ tn i s'.heap ∧ (∀ b ∈ fp, H' b = none) ∧ W i n H') ?_ mz ⟨0, H3, I4, st4, nf, wz⟩
    rintro n s5 ⟨i, H5, I5, st5, n5, w5⟩
    rcases turn i n H5 w5 with ⟨stop, qq⟩ | ⟨go, Nx, hNx, step⟩
    · refine thnF (T.done (X.blk s3 H3 scope ce fp) rfl rfl rfl hc i [] s5 _ H5 (fun _ _ => False) I5 (still I5 n5) st5 stop) fun r s6 ⟨hr, I6⟩ => ?_
      subst hr
      have I7 : L2.Inv X pins σ H5 s6 := I3.call' (ch := fp) I6.os I6.base I6.hok I6.bare fun b hb => ⟨(f3 b hb).1.2.2.2.1, (f3 b hb).1.2.1, (f3 b hb).1.2.2.2.2.1, (f3 b hb).1.2.2.2.2.2⟩
      have nC : H5 s3.heap.objs.size = none := by
        have z : H5 ce.locals = none := I6.free
        rw [cL] at z
        exact z
      obtain ⟨m, hn, _⟩ := I6.loc
      have hn : s6.heap.Ns ce.locals m := hn
      rw [cL] at hn
      exact hRR D s3.heap.objs.size s6 m H5 I7 qq hn (I3.fpOk (Nat.le_refl _) nC)
    · refine thnF (T.item (X.blk s3 H3 scope ce fp) rfl rfl rfl hc i [] s5 _ H5 (fun _ _ => False) I5 (still I5 n5) st5 go) fun r s6 ⟨u, hr, h6⟩ => ?_
      subst hr
      refine thnF h6 fun _ s7 ⟨x, H7, I7, r7, y7, st7, n7⟩ => ?_
      have I7' := I7.pinned (still I7 n7) (T.obj _ _ st7)
      refine thnF (pg.run _ s7 _ H7 x u _ I7' r7 (step x H7 y7)) fun _ s8 ⟨σ8, H8, I8, hw8, q8⟩ => ?_
      refine wpAny_pure ?_
      simp only [if_true]
      refine thnF (pk.run _ s8 σ8 H8 _ I8 q8) fun z s10 ⟨yk, H10, I10, r10, q10⟩ => ?_
      refine thnF (pv.run _ s10 σ8 H10 _ I10 q10) fun z2 s11 ⟨yv, H11, I11, r11, q11⟩ => ?_
      refine pp.run I11 r10 r11 q11 fun o nx s12 I12 => ?_
      obtain ⟨m', hm, w'⟩ := hNx _ nx
      have pin' : ∀ b ∈ fp, ∀ o', s7.heap.get? b = some o' → s12.heap.get? b = some o' ∧ (upd H11 D o) b = none := fun b hb o' z =>
        let t := I12.pin (b, o') (List.mem_append_right _ (List.mem_append_right _ (mem_pinsAt hb z)))
        ⟨t.1, t.2.1⟩
      have hl : (wipe σ (own.map (·.2))).length = σ8.length := by rw [← hw8, wipe_length]
      refine ⟨m', hm, i + 1, _, (I12.unpinned (pins := [])).weak hl (fun j v z => ?_), T.keep _ _ _ st7 fun b hb o' z => (pin' b hb o' z).1, fun b hb => ?_, w'⟩
      · rw [← hw8] at z
        exact (wipe_some z).1
      · obtain ⟨o', z, _⟩ := T.obj _ _ st7 b hb
        exact (pin' b hb o' z).2
  exact codeAny_compStart_dict loop (T.self X.A 0 _ _ _ st4 loop)
theorem pe_dcg {kx vx tg iter : Expr} {scope : Scope} {own : List (Str × Nat)} {pos : Pos} {wi : TI} {g : TG} {tk tv : TE} {o0 : Addr → HO} {pt : Hp → Addr → V → V → (HO → Prop) → Prop} (hc : X.calm = true) (hN : X.N.Nodup) (hi : PI X tg iter wi) (ok : BlkOk X.N X.env.scope scope own)
    (hg : ∀ (s : Shared) (H : Hp) (C : Addr) (cl : List (Str × Addr)) (fp : List Addr), PG (X.blk s H scope (compEnvC scope cl C X.env) fp) tg g)
    (hk : ∀ (s : Shared) (H : Hp) (C : Addr) (cl : List (Str × Addr)) (fp : List Addr), PE (X.blk s H scope (compEnvC scope cl C X.env) fp) kx tk)
    (he : ∀ (s : Shared) (H : Hp) (C : Addr) (cl : List (Str × Addr)) (fp : List Addr), PE (X.blk s H scope (compEnvC scope cl C X.env) fp) vx tv)
    (hp : ∀ (s : Shared) (H : Hp) (C : Addr) (cl : List (Str × Addr)) (fp : List Addr), PutR (X.blk s H scope (compEnvC scope cl C X.env) fp) pt)
    (h0 : ∀ (h : Heap) (H' : Hp), sysModules < h.objs.size → ObjOk X.prog X.w H' (h.push { cls := .type "dict", data := .dict #[] }) h.objs.size (o0 h.objs.size))
    (hs : ∀ x, foldedSetIterable iter X.env x = pure x := by intro _; rfl) :
    PE X (.DictComp kx vx [⟨tg, iter, [], 0⟩] scope pos) (tDcG wi g tk tv (own.map (·.2)) o0 pt) := by
  refine ⟨fun pins s σ H Q I h => ?_⟩
  rw [arm_eval_DictComp]
  refine dcg_core hc hN I hi ok hg hk he hs hp h0 h fun D C s' m H' I' q hn f => ⟨m, hn, fun h'' sb => ?_⟩
  exact ⟨.ref D, H', I'.turned (t' := s'.toks) (fun b o hb z => (sb.2 b hb).trans z) f.1 f.2.1 f.2.2.2.1 f.2.2.2.2.1 f.2.2.2.2.2, rfl, q⟩
end

/-! ### two kinds of keys: tuples, texts -/
/-- a dict of keys at D: C D ks H; how a key comes in -/
structure Keyed (K : PySem.W.Frag) (pt : Hp → Addr → V → V → (HO → Prop) → Prop) (o0 : Addr → HO) (good : D → Prop) (C : Addr → List NestedKey → Hp → Prop) : Prop where
  zero : ∀ D H, C D [] (upd H D (o0 D))
  step : ∀ D ks H v d, C D ks H → Is K H v d → good d → ks.length < sizeLine → ∀ G : HO → Prop, (∀ o, C D (insK ks (nk d)) (upd H D o) → G o) → pt H D v (.bl true) G
/-- the entries of nested keys at D -/
def Dn (P : Program) (w : World) (D : Addr) (xs : List (NestedKey × Addr × Value)) : HO := .ext fun h => xs.length ≤ sizeLine ∧ (D == sysModules) = false ∧ ∃ o es ep, h.get? D = some o ∧ o.ExactDict ∧ o.data = .dict es ep ∧ es.toList = xs.map (entryOfKey (nestedKind P w)) ∧ (xs.map (·.1)).Nodup
theorem dn_ok {P : Program} {w : World} {H : Hp} {h : Heap} {D : Addr} {xs : List (NestedKey × Addr × Value)} (z : xs.length ≤ sizeLine) (hs : (D == sysModules) = false) (hd : h.DictOfH (nestedKind P w) D xs) : ObjOk P w H h D (Dn P w D xs) := by
  obtain ⟨o, es, ep, h1, h2, h3, h4, _, h6⟩ := hd
  refine ⟨⟨z, hs, o, es, ep, h1, h2, h3, h4, h6⟩, ⟨o, h1⟩, fun a b hh k => ?_⟩
  obtain ⟨z, hs, o, es, ep, h1, r⟩ := hh
  exact ⟨z, hs, o, es, ep, k _ h1, r⟩
theorem stored_keys (xs : List (NestedKey × Addr × Value)) (k : NestedKey) (a : Addr) (v : Value) : (storedH xs k a v).map (·.1) = insK (xs.map (·.1)) k := by
  cases e : atKey xs k with
  | none =>
    rw [storedH_new e]
    have : k ∉ xs.map (·.1) := fun m => by
      obtain ⟨x, hx, rfl⟩ := List.mem_map.mp m
      unfold atKey at e
      have e := Option.map_eq_none_iff.mp e
      rw [List.find?_eq_none] at e
      exact e x hx (by simp)
    unfold insK
    rw [if_neg this]
    simp
  | some p =>
    rw [storedH_old e]
    have : k ∈ xs.map (·.1) := by
      unfold atKey at e
      obtain ⟨x, hx, _⟩ := Option.map_eq_some_iff.mp e
      have h1 := List.mem_of_find?_eq_some hx
      have h2 := List.find?_some hx
      exact List.mem_map.mpr ⟨x, h1, of_decide_eq_true h2⟩
    unfold insK
    rw [if_pos this, List.map_map]
    refine List.map_congr_left fun x _ => ?_
    show (putAt k v x).1 = x.1
    unfold putAt
    split <;> rfl
def ptN (P : Program) (w : World) (K : PySem.W.Frag) : Hp → Addr → V → V → (HO → Prop) → Prop := fun H D y _ G => ∃ xs a d, H D = some (Dn P w D xs) ∧ xs.length < sizeLine ∧ y = .ref a ∧ Is K H (.ref a) d ∧ (nk d).depth ≤ 8 ∧
  (∀ x ∈ xs, ∃ dx, Is K H (.ref x.2.1) dx ∧ nk dx = x.1 ∧ x.1.depth ≤ 8) ∧ ∀ v, G (Dn P w D (storedH xs (nk d) a v))
theorem putN {X : Cx} (hu : X.A.units + 8 < cLine) : PutR X (ptN X.prog X.w X.K) := by
  refine ⟨fun {pins σ H s E D y z u r G Q} I ry rz h q => ?_⟩
  obtain ⟨xs, a, d, hD, hz, rfl, hi, hdep, hxs, g⟩ := h
  cases ry
  obtain ⟨⟨_, hs, o, es, ep, h1, h2, h3, h4, h6⟩, _⟩ := (show ObjOk X.prog X.w H s.heap D (Dn X.prog X.w D xs) from I.hok D _ hD)
  have dd : s.heap.DictOfH (nestedKind X.prog X.w) D xs := ⟨o, es, ep, h1, h2, h3, h4, fun x hx => by
    obtain ⟨dx, q1, q2, q3⟩ := hxs x hx
    have := nested_of I dx q1 (u := .ref x.2.1) rfl
    rw [q2] at this
    exact ⟨this, q3⟩, h6⟩
  refine wpAny_dictSet_heap (knd := nestedKind X.prog X.w) (k := nk d) (hsz := by omega) hu ⟨nested_of I d hi (u := .ref a) rfl, hdep⟩ dd fun h' dd' sb => q _ (g r) _ ?_
  have he : ∃ q, h'.get? D = some q := let ⟨q, _, _, hq, _⟩ := dd'; ⟨q, hq⟩
  have hl := storedH_length xs (nk d) a r
  exact d_write I (by rw [hD]; exact True.intro) sb he (dn_ok (by omega) hs dd')
/-- D holds the tuples' keys ks -/
def CN (P : Program) (w : World) (K : PySem.W.Frag) (D : Addr) (ks : List NestedKey) (H : Hp) : Prop := ∃ xs, H D = some (Dn P w D xs) ∧ xs.map (·.1) = ks ∧ ∀ x ∈ xs, ∃ dx, Is K H (.ref x.2.1) dx ∧ nk dx = x.1 ∧ x.1.depth ≤ 8
def goodN (d : D) : Prop := isTup d = true ∧ (nk d).depth ≤ 8
theorem is_over {K : PySem.W.Frag} {H : Hp} {D : Addr} {o u : HO} (hD : H D = some u) (hu : ∀ p t, u ≠ .frz p t) {v : V} {d : Ib.D} (h : Is K H v d) : Is K (upd H D o) v d := by
  refine Is.mono (fun a xs ht => ?_) d h
  rcases ht with ⟨p, e, hp⟩ | k
  · refine .inl ⟨p, ?_, hp⟩
    have : a ≠ D := fun z => by subst z; rw [hD] at e; injection e with e; exact hu _ _ e
    rw [upd_ne this]
    exact e
  · exact .inr k
theorem keyedN {P : Program} {w : World} {K : PySem.W.Frag} : Keyed K (ptN P w K) (fun D => Dn P w D []) goodN (CN P w K) where
  zero := fun D H => ⟨[], upd_same, rfl, fun x hx => nomatch hx⟩
  step := fun D ks H v d hC hi hg hz G h => by
    obtain ⟨xs, hD, hk, hxs⟩ := hC
    obtain ⟨ht, hdep⟩ := hg
    cases d with
    | tup ds =>
      cases hi with
      | @tup a vs _ h1 h2 =>
        have hi : Is K H (.ref a) (.tup ds) := .tup h1 h2
        refine ⟨xs, a, .tup ds, hD, by rw [← hk, List.length_map] at hz; exact hz, rfl, hi, hdep, hxs, fun v => h _ ⟨_, upd_same, by rw [stored_keys, hk], fun x hx => ?_⟩⟩
        have up : ∀ {z : V} {dz : Ib.D}, Is K H z dz → Is K (upd H D (Dn P w D (storedH xs (nk (.tup ds)) a v))) z dz := fun q => is_over hD (fun _ _ z => nomatch z) q
        rcases mem_storedH_key hx with ⟨y, hy, e1, e2⟩ | ⟨e1, e2⟩
        · obtain ⟨dx, q1, q2, q3⟩ := hxs y hy
          exact ⟨dx, by rw [e2]; exact up q1, by rw [e1]; exact q2, by rw [e1]; exact q3⟩
        · exact ⟨.tup ds, by rw [e2]; exact up hi, e1.symm, by rw [e1]; exact hdep⟩
    | _ => cases ht
theorem lenN {X : Cx} : CallR X (.builtin "len") (fun vs H Q => ∃ a ks, vs = [V.ref a] ∧ CN X.prog X.w X.K a ks H ∧ Q (.int ks.length) H) := by
  intro pins s σ H vs us Q I r h
  obtain ⟨a, ks, rfl, ⟨xs, hD, hk, hxs⟩, q⟩ := h
  obtain ⟨u, rfl, ru⟩ := vals1 r
  cases ru
  obtain ⟨⟨hz, hs, o, es, ep, h1, h2, h3, h4, h6⟩, _⟩ := (show ObjOk X.prog X.w H s.heap a (Dn X.prog X.w a xs) from I.hok a _ hD)
  have dd : s.heap.DictOfH (nestedKind X.prog X.w) a xs := ⟨o, es, ep, h1, h2, h3, h4, fun x hx => by
    obtain ⟨dx, q1, q2, q3⟩ := hxs x hx
    have := nested_of I dx q1 (u := .ref x.2.1) rfl
    rw [q2] at this
    exact ⟨this, q3⟩, h6⟩
  have hl : xs.length = ks.length := by rw [← hk, List.length_map]
  refine call_len_dictH hs dd (by rw [sizeLine_eq] at hz; omega) ?_
  exact ⟨.int ks.length, H, I.tok _, ⟨_, by rw [hl]⟩, q⟩
/-! texts -/
def ptS : Hp → Addr → V → V → (HO → Prop) → Prop := fun H D y z G => ∃ kvs k, y = kV k ∧ H D = some (.dK kvs) ∧ kvs.length < sizeLine ∧ G (.dK (putK kvs k z))
theorem putS {X : Cx} : PutR X ptS := by
  refine ⟨fun {pins σ H s E D y z u r G Q} I ry rz h q => ?_⟩
  obtain ⟨kvs, k, rfl, hD, hz, g⟩ := h
  exact d_dictSet I hD hz ry rz fun s' I' => q _ g s' I'
def kN : Key → NestedKey
  | .inl i => .num i
  | .inr x => .text x
theorem kN_inj {a b : Key} (h : kN a = kN b) : a = b := by
  cases a <;> cases b <;> simp only [kN, NestedKey.num.injEq, NestedKey.text.injEq, reduceCtorEq] at h <;> rw [h]
def CS (D : Addr) (ks : List NestedKey) (H : Hp) : Prop := ∃ kvs, H D = some (.dK kvs) ∧ kvs.map (fun p => kN p.1) = ks
theorem put_keys (kvs : List (Key × V)) (k : Key) (v : V) : (putK kvs k v).map (fun p => kN p.1) = insK (kvs.map fun p => kN p.1) (kN k) := by
  unfold putK insK
  have : ((kvs.any fun kv => decide (kv.1 = k)) = true) ↔ kN k ∈ kvs.map fun p => kN p.1 := by
    rw [List.any_eq_true, List.mem_map]
    constructor
    · rintro ⟨x, hx, e⟩
      exact ⟨x, hx, by rw [of_decide_eq_true e]⟩
    · rintro ⟨x, hx, e⟩
      exact ⟨x, hx, decide_eq_true (kN_inj e)⟩
  by_cases h : (kvs.any fun kv => decide (kv.1 = k)) = true
  · rw [if_pos h, if_pos (this.mp h), List.map_map]
    refine List.map_congr_left fun x _ => ?_
    show kN (if x.1 = k then (x.1, v) else x).1 = kN x.1
    split <;> rfl
  · rw [if_neg h, if_neg fun z => h (this.mpr z)]
    simp
theorem keyedS {K : PySem.W.Frag} : Keyed K ptS (fun _ => .dK []) (fun d => isStr d = true) CS where
  zero := fun D H => ⟨[], upd_same, rfl⟩
  step := fun D ks H v d hC hi hg hz G h => by
    obtain ⟨kvs, hD, hk⟩ := hC
    cases d with
    | str l =>
      cases hi
      refine ⟨kvs, .inr (S l), rfl, hD, by rw [← hk, List.length_map] at hz; exact hz, h _ ⟨_, upd_same, ?_⟩⟩
      rw [put_keys, hk]
      rfl
    | _ => cases hg
theorem lenS {X : Cx} : CallR X (.builtin "len") (fun vs H Q => ∃ a ks, vs = [V.ref a] ∧ CS a ks H ∧ Q (.int ks.length) H) := by
  intro pins s σ H vs us Q I r h
  obtain ⟨a, ks, rfl, ⟨kvs, hD, hk⟩, q⟩ := h
  exact call_lenD pins s σ H [.ref a] us Q I r ⟨a, kvs, rfl, hD, by rw [← hk, List.length_map] at q; exact q⟩

/-! ### the rule -/
theorem nodup_nk : ∀ {xs : List D}, noBs xs = true → ((xs.map nk).Nodup ↔ xs.Nodup)
  | [], _ => by simp
  | x :: xs, h => by
    simp only [noBs, Bool.and_eq_true] at h
    rw [List.map_cons, List.nodup_cons, List.nodup_cons, nodup_nk h.2]
    have mem : ∀ {ys : List D}, noBs ys = true → (nk x ∈ ys.map nk ↔ x ∈ ys) := fun {ys} hy => by
      rw [List.mem_map]
      constructor
      · rintro ⟨y, hm, e⟩
        have : noB y = true := by
          clear e
          induction ys with
          | nil => cases hm
          | cons z zs ih =>
            simp only [noBs, Bool.and_eq_true] at hy
            rcases List.mem_cons.mp hm with rfl | hm
            · exact hy.1
            · exact ih hy.2 hm
        rw [← nk_inj y x this h.1 e]
        exact hm
      · exact fun hm => ⟨x, hm, rfl⟩
    rw [mem h.2]
/-- len({x: True for x in ..}) -/
def dLenD (i : Nat) (good : D → Prop) (di : DIC) : DE := fun δ R => di δ fun xs ok δ1 => ok δ1 ∧ i < δ1.length ∧ xs.length ≤ 1000000 ∧ (∀ x ∈ xs, good x) ∧ noBs xs = true ∧ ∀ n : Nat, (n = xs.length ↔ xs.Nodup) → R (.d (.int n)) δ1
section
variable {X : Cx} {iter : Expr} {scope : Scope} {i : Nat} {x : Str} {pos cpos p1 p2 p3 pl : Pos} {di : DIC} {pt : Hp → Addr → V → V → (HO → Prop) → Prop} {o0 : Addr → HO} {good : D → Prop} {C : Addr → List NestedKey → Hp → Prop} {j : Nat}
theorem up_lenD {K : PySem.W.Frag} (Kd : Keyed K pt o0 good C) {σ : St} {H : Hp} {Q : VK} (h : up K (dLenD i good di) σ H Q) : tCB (fun vs H Q => ∃ a ks, vs = [V.ref a] ∧ C a ks H ∧ Q (.int ks.length) H) (fun σ H Q => tDcG (upIC K di) (gName i) (tVar i) (tC (.bl true)) [i] o0 pt σ H fun v H' => Q [v] H') σ H Q := by
  obtain ⟨δ, R, E, h, q⟩ := h
  refine ⟨δ, _, E, h, fun xs ok δ1 J H1 h1 a1 src D hD => ?_⟩
  obtain ⟨hok, hlen, hz, hg, hb, hR⟩ := h1
  refine ⟨fun k m H2 => m = xs.length - k ∧ k ≤ xs.length ∧ Same H1 H2 ∧ C D (((xs.take k).map nk).foldl insK []) H2, ⟨_, rfl, Nat.zero_le _, fun b u e => by rw [upd_ne (ne_of_none e hD)]; exact e, by simpa using Kd.zero D H1⟩, ?_⟩
  rintro k m H2 ⟨rfl, hk, st, hC⟩
  have E2 : EnvOk K σ H2 δ1 := a1.env.same st
  obtain ⟨go, stop, yld⟩ := src δ1 H2 E2 (Stp.same st) hok
  by_cases hlt : k < xs.length
  · refine .inr ⟨go k hlt, fun H' => k + 1 ≤ xs.length ∧ Same H1 H' ∧ C D (((xs.take (k + 1)).map nk).foldl insK []) H', fun H' z => ⟨_, by omega, rfl, z⟩, fun v H3 y => ?_⟩
    obtain ⟨rfl, d, hd, hv⟩ := yld k v H3 hlt y
    have hw : wipe ((wipe σ [i]).set i (some v)) [i] = wipe σ [i] := (wipe_eq (by rw [List.length_set]) fun n hn => by rw [List.getElem?_set_ne fun z : i = n => hn (by simp [z])]).trans (wipe_wipe σ [i])
    refine ⟨hw, ?_⟩
    have hi : i < σ.length := by rw [E2.len]; exact hlen
    · refine ⟨v, by rw [List.getElem?_set_self (by rw [wipe_length]; exact hi)], ?_⟩
      have hl := (insK_len ((xs.take k).map nk) []).1
      refine Kd.step D _ H3 v d hC hv (hg d (List.mem_of_getElem? hd)) (by
        rw [List.length_map, List.length_take] at hl
        have := sizeLine_eq
        simp only [List.length_nil] at hl
        omega) _ fun o ho => ⟨hlt, ?_, ?_⟩
      · exact fun b u e => by rw [upd_ne (ne_of_none e hD)]; exact st b u e
      · rw [List.take_add_one, hd, List.map_append, List.foldl_append]
        exact ho
  · have e : k = xs.length := by omega
    subst e
    rw [List.take_length] at hC
    refine .inl ⟨stop, D, _, rfl, hC, ?_⟩
    have a2 : AR K σ δ1 H1 δ1 H2 := ⟨.refl _, Stp.same st, E2⟩
    refine q _ _ _ _ (hR _ ?_) (a1.trans a2) (Is.int _)
    rw [← nodup_nk hb, ← insK_nodup, List.length_map]
theorem de_lenD (Kd : Keyed X.K pt o0 good C) (hlen : CallR X (.builtin "len") (fun vs H Q => ∃ a ks, vs = [V.ref a] ∧ C a ks H ∧ Q (.int ks.length) H)) (hp : ∀ (s : Shared) (H : Hp) (C : Addr) (cl : List (Str × Addr)) (fp : List Addr), PutR (X.blk s H scope (compEnvC scope cl C X.env) fp) pt)
    (h0 : ∀ (h : Heap) (H' : Hp), sysModules < h.objs.size → ObjOk X.prog X.w H' (h.push { cls := .type "dict", data := .dict #[] }) h.objs.size (o0 h.objs.size)) (hgl : Gl X "len") (hm : X.mg "len" = none) (hc : X.calm = true) (hN : X.N.Nodup) (hi : PI X (.Name x p1) iter (upIC X.K di)) (ok : BlkOk X.N X.env.scope scope [(x, i)])
    (hg : ∀ (s : Shared) (H : Hp) (C : Addr) (cl : List (Str × Addr)) (fp : List Addr), PG (X.blk s H scope (compEnvC scope cl C X.env) fp) (.Name x p1) (gName i))
    (hk : ∀ (s : Shared) (H : Hp) (C : Addr) (cl : List (Str × Addr)) (fp : List Addr), PE (X.blk s H scope (compEnvC scope cl C X.env) fp) (.Name x p2) (tVar i))
    (hs : ∀ x, foldedSetIterable iter X.env x = pure x := by intro _; rfl)
    (hst : starEach [.DictComp (.Name x p2) (.Constant (.bool true) j p3) [⟨.Name x p1, iter, [], 0⟩] scope pos] X.env = (false, eval (.DictComp (.Name x p2) (.Constant (.bool true) j p3) [⟨.Name x p1, iter, [], 0⟩] scope pos) X.env) :: starEach [] X.env := by rfl) (hpl : (backTo cpos (starEach [] X.env)).any (·.1) = false := by rfl) :
    PE X (.Call (.Name "len" pl) [.DictComp (.Name x p2) (.Constant (.bool true) j p3) [⟨.Name x p1, iter, [], 0⟩] scope pos] [] cpos) (up X.K (dLenD i good di)) :=
  PE.imp (pe_callB hlen hgl hm (by decide +kernel) (pa_cons (pe_dcg hc hN hi ok hg hk (fun _ _ _ _ _ => pe_bl) hp h0 hs) pa_nil hst) (by decide) (by decide) hst hpl) fun σ H Q h => up_lenD Kd h
theorem ok0N {P : Program} {w : World} (h : Heap) (H' : Hp) (hb : sysModules < h.objs.size) : ObjOk P w H' (h.push { cls := .type "dict", data := .dict #[] }) h.objs.size (Dn P w h.objs.size []) :=
  dn_ok (Nat.zero_le _) (beq_eq_false_iff_ne.mpr (Ne.symm (Nat.ne_of_lt hb))) ⟨_, #[], 0, Heap.get?_push_size _ rfl, ⟨rfl, rfl, rfl⟩, rfl, rfl, (fun _ z => nomatch z), List.nodup_nil⟩
theorem de_lenT (hu : X.A.units + 64 < cLine) (hgl : Gl X "len") (hm : X.mg "len" = none) (hc : X.calm = true) (hN : X.N.Nodup) (hi : PI X (.Name x p1) iter (upIC X.K di)) (ok : BlkOk X.N X.env.scope scope [(x, i)])
    (hg : ∀ (s : Shared) (H : Hp) (C : Addr) (cl : List (Str × Addr)) (fp : List Addr), PG (X.blk s H scope (compEnvC scope cl C X.env) fp) (.Name x p1) (gName i))
    (hk : ∀ (s : Shared) (H : Hp) (C : Addr) (cl : List (Str × Addr)) (fp : List Addr), PE (X.blk s H scope (compEnvC scope cl C X.env) fp) (.Name x p2) (tVar i))
    (hs : ∀ x, foldedSetIterable iter X.env x = pure x := by intro _; rfl)
    (hst : starEach [.DictComp (.Name x p2) (.Constant (.bool true) j p3) [⟨.Name x p1, iter, [], 0⟩] scope pos] X.env = (false, eval (.DictComp (.Name x p2) (.Constant (.bool true) j p3) [⟨.Name x p1, iter, [], 0⟩] scope pos) X.env) :: starEach [] X.env := by rfl) (hpl : (backTo cpos (starEach [] X.env)).any (·.1) = false := by rfl) :
    PE X (.Call (.Name "len" pl) [.DictComp (.Name x p2) (.Constant (.bool true) j p3) [⟨.Name x p1, iter, [], 0⟩] scope pos] [] cpos) (up X.K (dLenD i goodN di)) :=
  de_lenD (keyedN (P := X.prog) (w := X.w)) lenN (fun _ _ _ _ _ => putN (by show X.A.units + 8 < cLine; omega)) ok0N hgl hm hc hN hi ok hg hk hs hst hpl
theorem de_lenS (hgl : Gl X "len") (hm : X.mg "len" = none) (hc : X.calm = true) (hN : X.N.Nodup) (hi : PI X (.Name x p1) iter (upIC X.K di)) (ok : BlkOk X.N X.env.scope scope [(x, i)])
    (hg : ∀ (s : Shared) (H : Hp) (C : Addr) (cl : List (Str × Addr)) (fp : List Addr), PG (X.blk s H scope (compEnvC scope cl C X.env) fp) (.Name x p1) (gName i))
    (hk : ∀ (s : Shared) (H : Hp) (C : Addr) (cl : List (Str × Addr)) (fp : List Addr), PE (X.blk s H scope (compEnvC scope cl C X.env) fp) (.Name x p2) (tVar i))
    (hs : ∀ x, foldedSetIterable iter X.env x = pure x := by intro _; rfl)
    (hst : starEach [.DictComp (.Name x p2) (.Constant (.bool true) j p3) [⟨.Name x p1, iter, [], 0⟩] scope pos] X.env = (false, eval (.DictComp (.Name x p2) (.Constant (.bool true) j p3) [⟨.Name x p1, iter, [], 0⟩] scope pos) X.env) :: starEach [] X.env := by rfl) (hpl : (backTo cpos (starEach [] X.env)).any (·.1) = false := by rfl) :
    PE X (.Call (.Name "len" pl) [.DictComp (.Name x p2) (.Constant (.bool true) j p3) [⟨.Name x p1, iter, [], 0⟩] scope pos] [] cpos) (up X.K (dLenD i (fun d => isStr d = true) di)) :=
  de_lenD keyedS lenS (fun _ _ _ _ _ => putS) (fun h H' hb => dk_empty h hb) hgl hm hc hN hi ok hg hk hs hst hpl
end
end Ib
set_option Elab.async false
set_option linter.all false
set_option autoImplicit false
set_option maxRecDepth 100000
set_option maxHeartbeats 4000000
/-! Ib8: comprehensions of two fors. -/
namespace Ib
open PySem PySem.Spec PyProof.Rows L2 TL
variable [Tabl]
/-- [e for target in iter for target1 in iter1], iter1 a new list each turn -/
def dLc2 (di : DIC) (g : DG) (de1 : DE) (g1 : DG) (te : DE) (vs vs1 : List Nat) : DE := fun δ R => di δ fun xs ok δ1 => ∃ Inv : Nat → List D → DEnv → Prop, Inv 0 [] δ1 ∧ (∀ i acc δ2, Inv i acc δ2 → ok δ2 ∧ Free δ2 vs) ∧
  (∀ i x acc δ2, xs[i]? = some x → Inv i acc δ2 → g x δ2 fun δ3 => de1 δ3 fun w1 δ4 => match w1 with
    | .lst ys => ∃ Inv1 : Nat → List D → DEnv → Prop, Inv1 0 acc δ4 ∧ (∀ j acc δ5, Inv1 j acc δ5 → Free δ5 vs1) ∧
      (∀ j y acc δ5, ys[j]? = some y → Inv1 j acc δ5 → g1 y δ5 fun δ6 => te δ6 fun w δ7 => match w with
        | .d z => acc.length < sizeLine ∧ Inv1 (j + 1) (acc ++ [z]) (wipeE δ7 vs1)
        | _ => False) ∧ ∀ acc δ5, Inv1 ys.length acc δ5 → Inv (i + 1) acc (wipeE δ5 vs)
    | _ => False) ∧ ∀ acc δ2, Inv xs.length acc δ2 → R (.lst acc) δ2
theorem up_lc2 {K : PySem.W.Frag} {di : DIC} {g g1 : DG} {de1 te : DE} {vs vs1 : List Nat} (hv : ∀ i ∈ vs1, i ∈ vs) {σ : St} {H : Hp} {Q : VK} (h : up K (dLc2 di g de1 g1 te vs vs1) σ H Q) :
    tLc2 (upIC K di) (upG K (fun k => k ∉ vs) g) tYes (iList K (up K de1)) (upG K (fun k => k ∉ vs1) g1) tYes (up K te) vs vs1 σ H Q := by
  obtain ⟨δ, R, E, h, q⟩ := h
  refine ⟨δ, _, E, h, fun xs ok δ1 J H1 h1 a1 src D hD => ?_⟩
  obtain ⟨Inv, h0, hok, step, fin⟩ := h1
  refine ⟨fun i m H2 => m = xs.length - i ∧ i ≤ xs.length ∧ ∃ acc δ2 us, Inv i acc δ2 ∧ EnvOk K σ H2 δ2 ∧ Sh δ1 δ2 ∧ Stp (M σ δ1) H1 H2 ∧ H2 D = some (.lst us) ∧ Iss K H2 us acc, ⟨_, rfl, Nat.zero_le _, [], δ1, [], h0, a1.env.new hD, Sh.refl _, Stp.new hD, upd_same, .nil⟩, ?_⟩
  rintro i m H2 ⟨rfl, hle, acc, δ2, us, hI, E2, sh2, st2, eD, hi⟩
  obtain ⟨ok2, fr⟩ := hok i acc δ2 hI
  obtain ⟨go, stop, yld⟩ := src δ2 H2 E2 st2 ok2
  by_cases hlt : i < xs.length
  · refine .inr ⟨go i hlt, fun H' => i + 1 ≤ xs.length ∧ ∃ acc δ2 us, Inv (i + 1) acc δ2 ∧ EnvOk K σ H' δ2 ∧ Sh δ1 δ2 ∧ Stp (M σ δ1) H1 H' ∧ H' D = some (.lst us) ∧ Iss K H' us acc, fun H' ⟨hl', z⟩ => ⟨xs.length - (i + 1), by omega, rfl, hl', z⟩, fun v H3 y => ?_⟩
    obtain ⟨rfl, x, hx, hv0⟩ := yld i v H3 hlt y
    have nD : ∀ b, M σ δ1 b → b ≠ D := fun b m z => by subst z; exact a1.env.dom m hD
    refine ⟨δ2, x, _, E2.wiped (vs := vs) fr, hv0, step i x acc δ2 hx hI, fun δ3 σ3 h3 g3 => ⟨(wipe_eq (by rw [g3.sr.ln]) fun k hk => g3.sr.par k hk).trans (wipe_wipe σ vs), ?_⟩⟩
    have hw3 : wipe σ3 vs = wipe σ vs := (wipe_eq (by rw [g3.sr.ln]) fun k hk => g3.sr.par k hk).trans (wipe_wipe σ vs)
    have m3 : ∀ {b : Addr}, M σ3 δ3 b → M σ δ1 b ∨ H3 b = none := fun {b} m => (g3.sr.fpm b m).imp (fun z => sh2.symm.M ((M_wipe fr).mp z)) id
    have n3 : ¬ M σ3 δ3 D := fun m => by
      rcases m3 m with z | z
      · exact nD D z rfl
      · rw [eD] at z; cases z
    simp only [tYes, if_true]
    refine ⟨δ3, _, g3.sr.env, h3, fun w1 δ4 v1 H4 h4 a4 t4 => ?_⟩
    cases w1 with
    | lst ys =>
      obtain ⟨⟨a, ws, rfl, ea, hys⟩, hf⟩ := t4
      have freeA : H3 a = none := hf a rfl
      have neA : a ≠ D := fun z => by subst z; rw [eD] at freeA; cases freeA
      obtain ⟨Inv1, k0, kfr, kstep, kfin⟩ := h4
      have m4 : ∀ {b : Addr}, M σ3 δ4 b → M σ3 δ3 b := fun {b} m => a4.sh.symm.M m
      have n4 : ¬ M σ3 δ4 D := fun m => n3 (m4 m)
      have n4a : ¬ M σ3 δ4 a := fun m => g3.sr.env.dom (m4 m) freeA
      have tm4 : ∀ b, M σ3 δ4 b ∨ b = D → ∃ zs, H4 b = some (.lst zs) := fun b m => m.elim (fun z => a4.env.own z) fun z => by subst z; exact ⟨_, a4.st.keep _ _ eD n3⟩
      refine ⟨a, rfl, ⟨_, .of ea⟩, fun j k H5 => k = ys.length - j ∧ j ≤ ys.length ∧ ∃ acc δ5 us5, Inv1 j acc δ5 ∧ EnvOk K σ3 H5 δ5 ∧ Sh δ4 δ5 ∧ Stp (fun b => M σ3 δ4 b ∨ b = D) H4 H5 ∧ H5 D = some (.lst us5) ∧ Iss K H5 us5 acc,
        ⟨_, rfl, Nat.zero_le _, acc, δ4, us, k0, a4.env, Sh.refl _, Stp.refl _ _, a4.st.keep _ _ eD n3, a4.st.iss (fun b m => g3.sr.env.own m) hi⟩, ?_⟩
      rintro j k H5 ⟨rfl, hlj, acc5, δ5, us5, hI5, E5, sh5, st5, eD5, hi5⟩
      have fr5 := kfr j acc5 δ5 hI5
      have ea5 : H5 a = some (.lst ws) := st5.keep _ _ ea fun z => z.elim n4a neA
      have hys5 : Iss K H5 ws ys := st5.iss tm4 hys
      by_cases hltj : j < ys.length
      · refine .inr ⟨⟨ws, ws[j]'(by rw [hys.length]; exact hltj), .of ea5, by simp [hys.length, hltj]⟩, fun H' => j + 1 ≤ ys.length ∧ ∃ acc δ5 us5, Inv1 (j + 1) acc δ5 ∧ EnvOk K σ3 H' δ5 ∧ Sh δ4 δ5 ∧ Stp (fun b => M σ3 δ4 b ∨ b = D) H4 H' ∧ H' D = some (.lst us5) ∧ Iss K H' us5 acc, fun H' ⟨hl', z⟩ => ⟨ys.length - (j + 1), by omega, rfl, hl', z⟩, fun v5 H6 y5 => ?_⟩
        obtain ⟨rfl, y5⟩ := y5
        obtain ⟨z, hz, hv5⟩ := hys5.getV (y5 ws (.of ea5))
        refine ⟨δ5, z, _, E5.wiped (vs := vs1) fr5, hv5, kstep j z acc5 δ5 hz hI5, fun δ6 σ6 h6 g6 => ⟨(wipe_eq (by rw [g6.sr.ln]) fun k hk => g6.sr.par k hk).trans (wipe_wipe σ3 vs1), ?_⟩⟩
        have hw6 : wipe σ6 vs1 = wipe σ3 vs1 := (wipe_eq (by rw [g6.sr.ln]) fun k hk => g6.sr.par k hk).trans (wipe_wipe σ3 vs1)
        have m6 : ∀ {b : Addr}, M σ6 δ6 b → M σ3 δ4 b ∨ H6 b = none := fun {b} m => (g6.sr.fpm b m).imp (fun z => sh5.symm.M ((M_wipe fr5).mp z)) id
        have n6 : ¬ M σ6 δ6 D := fun m => by
          rcases m6 m with z | z
          · exact n4 z
          · rw [eD5] at z; cases z
        simp only [tYes, if_true]
        refine ⟨δ6, _, g6.sr.env, h6, fun w7 δ7 v7 H7 h7 a7 t7 => ?_⟩
        cases w7 with
        | d z7 =>
          obtain ⟨hz7, hI7⟩ := h7
          have eD7 : H7 D = some (.lst us5) := a7.st.keep _ _ eD5 n6
          have hi7 : Iss K H7 us5 acc5 := a7.st.iss (fun b m => g6.sr.env.own m) hi5
          refine ⟨us5, eD7, by rw [hi5.length]; exact hz7, hltj, acc5 ++ [z7], wipeE δ7 vs1, us5 ++ [v7], hI7, ?_⟩
          have e7 : EnvOk K (wipe σ3 vs1) H7 (wipeE δ7 vs1) := by rw [← hw6]; exact a7.env.forget
          have e7 : EnvOk K σ3 H7 (wipeE δ7 vs1) := e7.unwiped (wipeE_free _ _)
          have sh7 : Sh δ4 (wipeE δ7 vs1) := sh5.trans (sh_of (vs := vs1) (by rw [wipeE_len, ← a7.sh.len, g6.dl]) fr5 (wipeE_free _ _) fun k hk => by
            rw [wipeE_out hk, ← g6.dk k hk]
            have := congrArg (fun z : List (Option U) => z[k]?) (show δ6.map (Option.map er) = δ7.map (Option.map er) from a7.sh)
            simpa [List.getElem?_map] using this)
          have stD : Stp (fun b => b = D) H7 (upd H7 D (.lst (us5 ++ [v7]))) := Stp.write eD7
          have tmD : ∀ b, b = D → ∃ zs, H7 b = some (.lst zs) := fun b z => by subst z; exact ⟨_, eD7⟩
          refine ⟨e7.keep stD tmD fun b z m => ?_, sh7, (st5.trans a7.st fun b m => ?_).trans stD fun b z => .inl (.inr z), upd_same, (stD.iss tmD hi7).append (.cons (stD.is tmD t7) .nil)⟩
          · subst z
            exact n4 (sh7.symm.M m)
          · rcases m6 m with z | z
            · exact .inl (.inl z)
            · exact .inr (st5.dom b z)
        | _ => exact h7.elim
      · have e : j = ys.length := by omega
        subst e
        refine .inl ⟨⟨ws, .of ea5, by rw [hys.length]; exact Nat.le_refl _⟩, hlt, acc5, wipeE δ5 vs, us5, kfin _ _ hI5, ?_⟩
        have e5 : EnvOk K (wipe σ vs) H5 (wipeE δ5 vs) := by rw [← hw3]; exact E5.forget
        have shall := a4.sh.trans sh5
        refine ⟨e5.unwiped (wipeE_free _ _), sh2.trans (sh_of (vs := vs) ?_ fr (wipeE_free _ _) fun k hk => ?_), (st2.trans a4.st fun b m => ?_).trans st5 fun b m => ?_, eD5, hi5⟩
        · rw [wipeE_len, ← shall.len, g3.dl]
        · rw [wipeE_out hk, ← g3.dk k hk]
          have := congrArg (fun z : List (Option U) => z[k]?) (show δ3.map (Option.map er) = δ5.map (Option.map er) from shall)
          simpa [List.getElem?_map] using this
        · rcases m3 m with z | z
          · exact .inl z
          · exact .inr (st2.dom b z)
        · rcases m with m | z
          · rcases m3 (m4 m) with z | z
            · exact .inl z
            · exact .inr (st2.dom b z)
          · subst z
            exact .inr hD
    | _ => exact h4.elim
  · have e : i = xs.length := by omega
    subst e
    refine .inl ⟨stop, q _ _ _ _ (fin acc δ2 hI) (a1.trans ⟨sh2, st2, E2⟩) ⟨⟨D, us, rfl, eD, hi⟩, fun b z => ?_⟩⟩
    have z : b = D := z
    subst z
    exact a1.st.dom _ hD
section
variable {X : Cx} {elt tg iter tg1 iter1 : Expr} {scope : Scope} {own : List (Str × Nat)} {vs1 : List Nat} {pos : Pos} {di : DIC} {g g1 : DG} {de1 te : DE}
theorem de_lc2 (hc : X.calm = true) (hN : X.N.Nodup) (hi : PI X tg iter (upIC X.K di)) (ok : BlkOk X.N X.env.scope scope own) (hv : ∀ i ∈ vs1, i ∈ own.map (·.2))
    (hg : ∀ (s : Shared) (H : Hp) (C : Addr) (cl : List (Str × Addr)) (fp : List Addr), PG (X.blk s H scope (compEnvC scope cl C X.env) fp) tg (upG X.K (fun k => k ∉ own.map (·.2)) g))
    (h1 : ∀ (s : Shared) (H : Hp) (C : Addr) (cl : List (Str × Addr)) (fp : List Addr), PE (X.blk s H scope (compEnvC scope cl C X.env) fp) iter1 (up X.K de1))
    (hg1 : ∀ (s : Shared) (H : Hp) (C : Addr) (cl : List (Str × Addr)) (fp : List Addr), PG (X.blk s H scope (compEnvC scope cl C X.env) fp) tg1 (upG X.K (fun k => k ∉ vs1) g1))
    (he : ∀ (s : Shared) (H : Hp) (C : Addr) (cl : List (Str × Addr)) (fp : List Addr), PE (X.blk s H scope (compEnvC scope cl C X.env) fp) elt (up X.K te)) (hs : ∀ x, foldedSetIterable iter X.env x = pure x := by intro _; rfl) (hs1 : ∀ env x, foldedSetIterable iter1 env x = pure x := by intro _ _; rfl) :
    PE X (.ListComp elt [⟨tg, iter, [], 0⟩, ⟨tg1, iter1, [], 0⟩] scope pos) (up X.K (dLc2 di g de1 g1 te (own.map (·.2)) vs1)) :=
  PE.imp (pe_lc2 hc hN hi ok hv hg (fun _ _ _ _ _ => pts_nil) (fun s H C cl fp => pi_list (h1 s H C cl fp)) hg1 (fun _ _ _ _ _ => pts_nil) he hs hs1) fun _ _ _ h => up_lc2 hv h
end
/-- each item's new list is a function's value, and so is each element -/
theorem dLc2_flat {di : DIC} {g g1 : DG} {de1 te : DE} {vs vs1 : List Nat} {δ : DEnv} {xs : List D} {ok : DEnv → Prop} {R : U → DEnv → Prop} (f : D → List D) (hd : ∀ R' : List D → (DEnv → Prop) → DEnv → Prop, R' xs ok δ → di δ R') (hok : ok δ) (hf : Free δ vs) (hz : ((xs.map f).flatten).length ≤ sizeLine)
    (h : ∀ x ∈ xs, ∀ P : U → DEnv → Prop, (∀ δ4, wipeE δ4 vs = δ → Free δ4 vs1 → (∀ y ∈ f x, ∀ P' : U → DEnv → Prop, (∀ δ7, wipeE δ7 vs1 = δ4 → P' (.d y) δ7) → g1 y δ4 fun δ6 => te δ6 P') → P (.lst (f x)) δ4) → g x δ fun δ3 => de1 δ3 P) (hR : R (.lst (xs.map f).flatten) δ) : dLc2 di g de1 g1 te vs vs1 δ R := by
  refine hd _ ⟨fun i acc δ2 => δ2 = δ ∧ i ≤ xs.length ∧ acc = ((xs.take i).map f).flatten, ⟨rfl, Nat.zero_le _, rfl⟩, ?_, ?_, ?_⟩
  · rintro i acc δ2 ⟨rfl, _, _⟩
    exact ⟨hok, hf⟩
  · rintro i x acc δ2 hx ⟨rfl, hi, rfl⟩
    have hlt : i < xs.length := (List.getElem?_eq_some_iff.mp hx).1
    refine h x (List.mem_of_getElem? hx) _ fun δ4 h4 fr4 he => ?_
    refine ⟨fun j acc δ5 => δ5 = δ4 ∧ j ≤ (f x).length ∧ acc = ((xs.take i).map f).flatten ++ (f x).take j, ⟨rfl, Nat.zero_le _, by simp⟩, ?_, ?_, ?_⟩
    · rintro j acc δ5 ⟨rfl, _⟩
      exact fr4
    · rintro j y acc δ5 hy ⟨rfl, hj, rfl⟩
      have hltj : j < (f x).length := (List.getElem?_eq_some_iff.mp hy).1
      refine he y (List.mem_of_getElem? hy) _ fun δ7 h7 => ⟨?_, h7, hltj, ?_⟩
      · have e : (xs.map f).flatten = ((xs.take i).map f).flatten ++ (f x ++ ((xs.drop (i + 1)).map f).flatten) := by
          conv => lhs; rw [← List.take_append_drop i xs]
          rw [List.map_append, List.flatten_append]
          have : xs.drop i = x :: xs.drop (i + 1) := by
            rw [List.drop_eq_getElem_cons hlt]
            rw [List.getElem?_eq_getElem hlt] at hx
            injection hx with hx
            rw [hx]
          rw [this, List.map_cons, List.flatten_cons]
        rw [e] at hz
        simp only [List.length_append, List.length_take] at hz ⊢
        omega
      · rw [List.take_add_one, hy, List.append_assoc]
        rfl
    · rintro acc δ5 ⟨rfl, _, rfl⟩
      refine ⟨h4, hlt, ?_⟩
      rw [List.take_add_one, hx, List.map_append, List.flatten_append, List.take_length]
      simp
  · rintro acc δ2 ⟨rfl, _, rfl⟩
    rw [List.take_length]
    exact hR
end Ib
set_option Elab.async false
set_option linter.all false
set_option autoImplicit false
set_option maxRecDepth 100000
set_option maxHeartbeats 4000000
/-! IbS: sorted(tuple, key=f), f a function that keeps what is tracked. -/
namespace Ib
open PySem PySem.Spec PyProof.Rows L2 TL PySem.W
variable [Tabl]
/-- a thing that is no table and no code object is changed -/
theorem Stp.ov {H : Hp} {D : Addr} {u o : HO} (e : H D = some u) (h1 : ∀ ps, u ≠ .tbl ps) (h2 : ∀ f, u ≠ .ext f) : Stp (fun b => b = D) H (upd H D o) :=
  ⟨fun b v q n _ => by rw [upd_ne n]; exact q, fun b q => by
    by_cases hb : b = D
    · subst hb; rw [upd_same] at q; cases q
    · rw [upd_ne hb] at q; exact q, fun t p hp => by
    obtain ⟨ps, t1, t2, t3⟩ := t p hp
    refine ⟨ps, ?_, t2, fun pos cv hc => ?_⟩
    · rw [upd_ne fun z => by subst z; rw [e] at t1; injection t1 with t1; exact h1 _ t1]
      exact t1
    · obtain ⟨c, e1, e2⟩ := t3 pos cv hc
      refine ⟨c, e1, ?_⟩
      rw [upd_ne fun z => by subst z; rw [e] at e2; injection e2 with e2; exact h2 _ e2]
      exact e2⟩
theorem vals_at : ∀ {vs : List V} {us : List Value} {i : Nat} {v : V} {u : Value}, Vals vs us → vs[i]? = some v → us[i]? = some u → RelV v u
  | _, _, _, _, _, .nil, e, _ => by simp at e
  | _, _, 0, _, _, .cons r _, e1, e2 => by
    simp at e1 e2
    subst e1 e2
    exact r
  | _, _, i + 1, _, _, .cons _ t, e1, e2 => vals_at (i := i) t (by simpa using e1) (by simpa using e2)
theorem iss_each {K : PySem.W.Frag} {H : Hp} : ∀ {vs : List V} {us : List Value} {ds : List D}, Vals vs us → Iss K H vs ds → EachIs (fun u d => ∃ v, RelV v u ∧ Is K H v d) us ds
  | _, _, _, .nil, .nil => .nil
  | _, _, _, .cons r t, .cons h h2 => .cons ⟨_, r, h⟩ (iss_each t h2)
theorem each_iss {K : PySem.W.Frag} {H : Hp} : ∀ {us : List Value} {ds : List D}, EachIs (fun u d => ∃ v, RelV v u ∧ Is K H v d) us ds → ∃ vs, Vals vs us ∧ Iss K H vs ds
  | _, _, .nil => ⟨[], .nil, .nil⟩
  | _, _, .cons h t => by
    obtain ⟨v, r, i⟩ := h
    obtain ⟨vs, r2, i2⟩ := each_iss t
    exact ⟨v :: vs, .cons r r2, .cons i i2⟩
section
variable {X : Cx} {pins : List (Addr × Obj)} {σ : St} {H : Hp} {s : Shared} {A : Around} {a kS : Addr} {e1 : Nat} {P : PySem.Fin → Shared → Prop} {E : Value → Shared → Prop}
/-- the end: the keys are let go, the list gets the items -/
theorem sk_tail {st : SortSt} {out : List Value} {ys ks : List V} (I : L2.Inv X pins σ H s) (hk : H kS = some (.lst ks)) (ha : H a = some (.frz (seqObj "list" #[] e1) (.lst []))) (n0 : ∀ o u, X.H_0 a ≠ some (.frz o u)) (hka : kS ≠ a) (z : out.length ≤ sizeLine) (r : Vals ys out)
    (hfl : failedOf st = none) (ho : (arrOf st).map (·.2) = out.toArray) (h : ∀ s', L2.Inv X pins σ (upd (upd (upd H kS (.lst [])) a (.lst [])) a (.lst ys)) s' → P (.done (.ret .none)) s') :
    wpAny (model X.prog X.w) A (ksk_tail a false e1 (.ref kS) st) P E s := by
  obtain ⟨zk, itk, nk, rk, lk, ek⟩ := I.lstM hk
  have ea : s.heap.get? a = some (seqObj "list" #[] e1) := (I.hok a _ ha).1
  unfold ksk_tail
  try dsimp only
  rw [ho]
  refine wpAny_bind (listUpdate_at ek rfl ?_ (by rw [List.size_toArray, ← lk]; exact zk) (Nat.zero_le _))
  have I1 := I.lset (its' := []) (f := fun _ => #[]) (t' := s.toks) hk ek rfl .nil (Nat.zero_le _)
  refine wpAny_bind (wpAny_letGo ?_)
  have ha1 : upd H kS (.lst []) a = some (.frz (seqObj "list" #[] e1) (.lst [])) := by rw [upd_ne hka.symm]; exact ha
  have ea1 : (s.heap.update kS (Obj.mapSeq fun _ => (#[] : Array Value))).get? a = some (seqObj "list" #[] e1) := (I1.hok a _ ha1).1
  refine wpAny_bind (seqEpoch_at ea1 rfl ?_)
  refine wpAny_bind (listUpdate_at ea1 rfl ?_ (Nat.zero_le _) (by simp only [Bool.false_eq_true, if_false]; rw [List.size_toArray]; omega))
  rw [hfl]
  simp only [bne_self_eq_false, Bool.false_eq_true, if_false]
  have I2 := I1.unlock ha1 n0
  exact wpAny_pure (h _ (I2.lset (its := []) (its' := out) (t' := s.toks) upd_same (by simpa using ea1) rfl r (by rw [r.length]; exact z)))
theorem sk_end {κ : PyProof.Rows.KeyKind} {vs keys : List Value} {ks ys : List V} (I : L2.Inv X pins σ H s) (hk : H kS = some (.lst ks)) (ha : H a = some (.frz (seqObj "list" #[] e1) (.lst []))) (n0 : ∀ o u, X.H_0 a ≠ some (.frz o u)) (hka : kS ≠ a)
    (S : SortsAt X.prog X.w A s κ keys) (hl : keys.length = vs.length) (hz : vs.length ≤ sizeLine) (r : Vals ys (sortVals κ false keys vs)) (h : ∀ s', L2.Inv X pins σ (upd (upd (upd H kS (.lst [])) a (.lst [])) a (.lst ys)) s' → P (.done (.ret .none)) s') :
    wpAny (model X.prog X.w) A (ksk_end a false vs.toArray e1 (.ref kS) keys.toArray) P E s := by
  obtain ⟨kd, g1, g2⟩ := S.kind
  have hK : PyProof.Rows.KeysOf κ (keys.toArray.zip vs.toArray) := keysOf_zip fun v hv => S.keys v (by simpa using hv)
  have hn : (sortVals κ false keys vs).length = vs.length := sortVals_length false hl
  have hs : (keys.toArray.zip vs.toArray).size = vs.length := by rw [Array.size_zip, List.size_toArray, List.size_toArray, hl, Nat.min_self]
  have fin : ∀ st' : SortSt, (arrOf st').Perm (keys.toArray.zip vs.toArray) → SortedToK κ (arrOf st') (keys.toArray.zip vs.toArray).size → Stable κ (arrOf st') (keys.toArray.zip vs.toArray) → (arrOf st').map (·.2) = (sortVals κ false keys vs).toArray := by
    intro st' hp hs ht
    have q := congrArg List.toArray (sort_out (rev := false) (keys := keys.toArray) (items := vs.toArray) (xs := arrOf st') (κ := κ) hK hp hs ht)
    rw [Array.toArray_toList] at q
    simpa using q
  unfold ksk_end
  try dsimp only
  simp only [Bool.false_eq_true, if_false]
  by_cases h2 : vs.toArray.size < 2
  · rw [if_pos h2, if_pos h2]
    refine wpAny_bind (wpAny_pure ?_)
    rw [StateT.run_pure]
    refine wpAny_bind (wpAny_pure ?_)
    try dsimp only
    refine sk_tail (st := SortSt.mk' general' (keys.toArray.zip vs.toArray) #[] 7 none) I hk ha n0 hka (by rw [hn]; exact hz) r rfl (fin _ (Array.Perm.refl _) (fun i j hij hj => ?_) (Stable.refl _)) h
    rw [hs] at hj
    rw [List.size_toArray] at h2
    have : i = j := by omega
    subst this
    exact KeyOrd.kle_refl _
  · rw [if_neg h2, if_neg h2]
    rw [List.size_toArray] at h2
    refine wpAny_bind (g2 (by omega) _ ?_)
    refine wpAny_bind (wpAny_mono (PyProof.Rows.H.wpS_sortRunsSt (κ := κ) (kd := kd) (a₀ := keys.toArray.zip vs.toArray) (st := SortSt.mk' kd (keys.toArray.zip vs.toArray) #[] 7 none)
      (Q := fun _ st' => failedOf st' = none ∧ (arrOf st').map (·.2) = (sortVals κ false keys vs).toArray) g1 hK ⟨Array.Perm.refl _, rfl, rfl⟩ rfl (Stable.refl _) (by rw [hs]; omega) fun st' a1 a2 a3 a4 => ⟨a2, fin st' a1 a3 a4⟩) ?_ fun _ _ e => e)
    rintro ⟨⟨⟩, st'⟩ s' ⟨rfl, hf, ho⟩
    try dsimp only at ho ⊢
    exact sk_tail I hk ha n0 hka (by rw [hn]; exact hz) r hf ho h
end
/-- what a key's call does: from any state in which what stood at H0 stands -/
def KeyCall (X : Cx) (pins : List (Addr × Obj)) (σ : St) (H0 : Hp) (A : Around) (f : Value) (ds : List D) (kd : D → D) : Prop := ∀ (v : V) (u : Value) (d : D) (H1 : Hp) (s1 : Shared), L2.Inv X pins σ H1 s1 → Stp (fun _ => False) H0 H1 → RelV v u → Is X.K H1 v d → d ∈ ds →
  wpAny (model X.prog X.w) A (call f [u]) (fun ku s2 => ∃ y H2, L2.Inv X pins σ H2 s2 ∧ Stp (fun _ => False) H1 H2 ∧ RelV y ku ∧ Is X.K H2 y (kd d)) (fun _ _ => False) s1
section
variable {X : Cx} {pins : List (Addr × Obj)} {σ : St} {H H0 : Hp} {s : Shared} {A : Around} {a kS : Addr} {e1 : Nat} {P : PySem.Fin → Shared → Prop} {E : Value → Shared → Prop} {f : Value} {ds : List D} {kd : D → D} {vs : List V} {us : List Value}
theorem sk_rest (I : L2.Inv X pins σ H s) (h0 : Stp (fun _ => False) H0 H) (hk : H kS = some (.lst [])) (ha : H a = some (.frz (seqObj "list" #[] e1) (.lst []))) (n0 : ∀ o u, X.H_0 a ≠ some (.frz o u)) (f0 : H0 kS = none) (fa : H0 a = none) (hka : kS ≠ a)
    (rv : Vals vs us) (hi : Iss X.K H vs ds) (hz : ds.length ≤ sizeLine) (hal : AllAlike (ds.map fun d => (kd d).pd)) (hsk : Sortable (ds.map fun d => (kd d).pd)) (hu : ∀ d ∈ ds, A.units + (kd d).pd.depth < cLine) (turn : KeyCall X pins σ H0 A f ds kd)
    (h : ∀ H' s' ys, L2.Inv X pins σ H' s' → Stp (fun _ => False) H0 H' → H' a = some (.lst ys) → Iss X.K H' ys (ds.mergeSort (dataLe false fun d => (kd d).pd)) → P (.done (.ret .none)) s') :
    wpAny (model X.prog X.w) A (ksk_rest a f false us.toArray e1 (.ref kS)) P E s := by
  have lu : us.length = ds.length := by rw [← rv.length, hi.length]
  -- writing the key store
  have stK : ∀ {H1 : Hp} {ks ks' : List V}, Stp (fun _ => False) H0 H1 → H1 kS = some (.lst ks) → Stp (fun _ => False) H0 (upd H1 kS (.lst ks')) := fun {H1 ks ks'} q e => q.trans (Stp.write e) fun b z => .inr (by subst z; exact f0)
  unfold ksk_rest
  refine wpAny_bind (wpAny_rule ?_)
  first
    | rw [List.forIn_toArray]
    | (rw [← Array.forIn_toList]; simp only [List.toList_toArray])
  refine wpAny_bind (ksk_fold (fun i s' => ∃ H1 ks, L2.Inv X pins σ H1 s' ∧ Stp (fun _ => False) H0 H1 ∧ H1 kS = some (.lst ks) ∧ H1 a = some (.frz (seqObj "list" #[] e1) (.lst [])) ∧ Iss X.K H1 vs ds ∧ Iss X.K H1 ks ((ds.take i).map kd)) us 0 s ⟨H, [], I, h0, hk, ha, hi, .nil⟩ ?step ?done)
  case step =>
    rintro j u s' hx ⟨H1, ks, I1, q1, k1, a1, i1, i2⟩
    simp only [Nat.zero_add] at i2 ⊢
    have hj : j < ds.length := by
      have := (List.getElem?_eq_some_iff.mp hx).1
      omega
    obtain ⟨d, hd⟩ : ∃ d, ds[j]? = some d := ⟨_, List.getElem?_eq_getElem hj⟩
    obtain ⟨v, hv, hvi⟩ := i1.get hd
    have ruv : RelV v u := vals_at rv hv hx
    refine wpAny_bind (wpAny_attempt (wpAny_mono (turn v u d H1 s' I1 q1 ruv hvi (List.mem_of_getElem? hd)) (fun ku s2 hq => ?_) fun _ _ z => z.elim))
    obtain ⟨y, H2, I2, q2, ry, iy⟩ := hq
    have tm : ∀ b, False → ∃ xs, H1 b = some (.lst xs) := fun _ z => z.elim
    have k2 : H2 kS = some (.lst ks) := q2.keep _ _ k1 (fun z => z)
    have a2 : H2 a = some (.frz (seqObj "list" #[] e1) (.lst [])) := q2.keep _ _ a1 (fun z => z)
    obtain ⟨zk, itk, nk, rk, lk, ek⟩ := I2.lstM k2
    have lks : ks.length = j := by
      rw [i2.length, List.length_map, List.length_take]
      omega
    try dsimp only
    have hsz : itk.toArray.size ≤ sizeLine := by rw [List.size_toArray, ← lk]; exact zk
    refine wpAny_bind (listUpdate_at ek rfl ?_ hsz (Nat.le_trans (Nat.le_of_eq (Array.size_push ..)) (Nat.succ_le_succ hsz)))
    have I3 := I2.lset (its' := itk ++ [ku]) (f := fun q => q.push ku) (t' := s2.toks) k2 ek (by simp) (rk.append (.cons ry .nil)) (by rw [List.length_append, List.length_singleton]; omega)
    have stw : Stp (fun b => b = kS) H2 (upd H2 kS (.lst (ks ++ [y]))) := Stp.write k2
    have tw : ∀ b, b = kS → ∃ xs, H2 b = some (.lst xs) := fun b z => by subst z; exact ⟨_, k2⟩
    refine wpAny_pure ⟨rfl, _, ks ++ [y], I3, stK (q1.trans q2 fun _ z => .inl z) k2, upd_same, by rw [upd_ne hka.symm]; exact a2, stw.iss tw (q2.iss tm i1), ?_⟩
    rw [List.take_add_one, hd, List.map_append]
    exact (stw.iss tw (q2.iss tm i2)).append (.cons (stw.is tw iy) .nil)
  case done =>
    rintro s' ⟨H1, ks, I1, q1, k1, a1, i1, i2⟩
    have e3 : ds.take (0 + us.length) = ds := List.take_of_length_le (by omega)
    rw [e3] at i2
    obtain ⟨zk, itk, nk, rk, lk, ek⟩ := I1.lstM k1
    have lks : ks.length = ds.length := by rw [i2.length, List.length_map]
    try dsimp only
    refine wpAny_bind (listItems_at ek rfl ?_)
    have rd : EachIs (fun u d => ∃ as, Reads s'.heap u d as) itk (ds.map fun d => (kd d).pd) := by
      have q := (iss_each rk i2).mono (R' := fun u d => ∃ as, Reads s'.heap u d.pd as) fun u d ⟨v, r, i⟩ => Dp.reads I1 d.pd v u (Is.dp d i) r
      have : ∀ {us : List Value} {es : List D}, EachIs (fun u d => ∃ as, Reads s'.heap u d.pd as) us es → EachIs (fun u d => ∃ as, Reads s'.heap u d as) us (es.map D.pd) := fun {us es} h => by
        induction h with
        | nil => exact .nil
        | cons r t ih => exact .cons r ih
      have q2 := this q
      rw [List.map_map] at q2
      exact q2
    have hl : itk.length = us.length := by omega
    have ko : KeyedOut false (ds.map fun d => (kd d).pd) us (sortVals (dataKind s'.heap (ds.map fun d => (kd d).pd)) false itk us) := ⟨s'.heap, itk, hal, rfl, rd⟩
    obtain ⟨ys, ry, iy⟩ := each_iss (keyedOut_each (fun d => (kd d).pd) ko (iss_each rv i1))
    refine sk_end (κ := dataKind s'.heap (ds.map fun d => (kd d).pd)) I1 k1 a1 n0 hka (SortsAt.data rd hal hsk (fun d hd => ?_)) hl (by omega) ry fun s2 I2 => ?_
    · obtain ⟨x, hx, rfl⟩ := List.mem_map.mp hd
      exact hu x hx
    · have g1 : Stp (fun b => b = kS) H1 (upd H1 kS (.lst [])) := Stp.write k1
      have ea : upd H1 kS (.lst []) a = some (.frz (seqObj "list" #[] e1) (.lst [])) := by rw [upd_ne hka.symm]; exact a1
      have g2 : Stp (fun b => b = a) (upd H1 kS (.lst [])) (upd (upd H1 kS (.lst [])) a (.lst [])) := Stp.ov ea (fun _ z => nomatch z) fun _ z => nomatch z
      have g3 : Stp (fun b => b = a) (upd (upd H1 kS (.lst [])) a (.lst [])) (upd (upd (upd H1 kS (.lst [])) a (.lst [])) a (.lst ys)) := Stp.write upd_same
      have up : ∀ {v : V} {d : D}, Is X.K H1 v d → Is X.K (upd (upd (upd H1 kS (.lst [])) a (.lst [])) a (.lst ys)) v d := fun {v d} i => by
        rw [upd_upd]
        refine Is.mono (fun b xs ht => ?_) d i
        rcases ht with ⟨p, e, hp⟩ | k
        · have n1 : b ≠ a := fun z => by subst z; rw [a1] at e; cases e
          have n2 : b ≠ kS := fun z => by subst z; rw [k1] at e; cases e
          exact .inl ⟨p, by rw [upd_ne n1, upd_ne n2]; exact e, hp⟩
        · exact .inr k
      have ups : ∀ {vs : List V} {es : List D}, Iss X.K H1 vs es → Iss X.K (upd (upd (upd H1 kS (.lst [])) a (.lst [])) a (.lst ys)) vs es := fun {vs es} h => by
        induction es generalizing vs with
        | nil => cases h; exact .nil
        | cons e es ih => cases h with | cons h1 h2 => exact .cons (up h1) (ih h2)
      exact h _ _ ys I2 (((q1.trans g1 fun b z => .inr (by subst z; exact f0)).trans g2 fun b z => .inr (by subst z; exact fa)).trans g3 fun b z => .inr (by subst z; exact fa)) upd_same (ups iy)
theorem sk_tree (I : L2.Inv X pins σ H s) (h0 : Stp (fun _ => False) H0 H) (ha : H a = some (.lst vs)) (fa : H0 a = none) (hi : Iss X.K H vs ds) (hz : ds.length ≤ sizeLine) (hal : AllAlike (ds.map fun d => (kd d).pd)) (hsk : Sortable (ds.map fun d => (kd d).pd)) (hu : ∀ d ∈ ds, A.units + (kd d).pd.depth < cLine)
    (turn : KeyCall X pins σ H0 A f ds kd) (h : ∀ H' s' ys, L2.Inv X pins σ H' s' → Stp (fun _ => False) H0 H' → H' a = some (.lst ys) → Iss X.K H' ys (ds.mergeSort (dataLe false fun d => (kd d).pd)) → P (.done (.ret .none)) s') :
    wpAny (model X.prog X.w) A (ksk_tree a f false) P E s := by
  obtain ⟨z, its, n, rv, hl, e⟩ := I.lstM ha
  unfold ksk_tree
  refine wpAny_bind (listItems_at e rfl ?_)
  refine wpAny_bind (listUpdate_at e rfl ?_ (by rw [List.size_toArray, ← hl]; exact z) (Nat.zero_le _))
  have I1 := I.lset (its' := []) (f := fun _ => #[]) (t' := s.toks) ha e rfl .nil (Nat.zero_le _)
  have a1 : upd H a (.lst []) a = some (.lst []) := upd_same
  obtain ⟨n1, e1⟩ : ∃ n1, (s.heap.update a (Obj.mapSeq fun _ => (#[] : Array Value))).get? a = some (seqObj "list" #[] n1) := ⟨_, get?_update_seq e fun _ => #[]⟩
  refine wpAny_bind (seqEpoch_at e1 rfl ?_)
  refine wpAny_bind (wpAny_newTuple ?_ (by simp only [List.toList_toArray]; omega))
  refine wpAny_bind (wpAny_newList ?_ (Nat.zero_le _))
  refine wpAny_holding ?_
  have na := I1.nofrz a1 trivial
  obtain ⟨od, I2⟩ := I1.lock a1 trivial
  have eo : od = seqObj "list" #[] n1 := by
    have q := (I2.hok a _ upd_same).1
    rw [e1] at q
    exact (Option.some.inj q).symm
  subst eo
  have I3 : L2.Inv X pins σ _ { s with heap := (s.heap.update a (Obj.mapSeq fun _ => (#[] : Array Value))).push (seqObj "tuple" its.toArray.toList.toArray 0) } := I2.kept (t' := s.toks) fun b o q => Heap.get?_push_of_some _ q
  generalize hsz : ((s.heap.update a (Obj.mapSeq fun _ => (#[] : Array Value))).push (seqObj "tuple" its.toArray.toList.toArray 0)).objs.size = kS
  have fk : upd (upd H a (.lst [])) a (.frz (seqObj "list" #[] n1) (.lst [])) kS = none := I3.hok.fresh (by rw [← hsz]; exact Nat.le_refl _)
  have I4 : L2.Inv X pins σ (upd (upd (upd H a (.lst [])) a (.frz (seqObj "list" #[] n1) (.lst []))) kS (.lst [])) { s with heap := ((s.heap.update a (Obj.mapSeq fun _ => (#[] : Array Value))).push (seqObj "tuple" its.toArray.toList.toArray 0)).push (seqObj "list" #[] 0) } := by
    refine I3.laid (t' := s.toks) (fun b o q => Heap.get?_push_of_some _ q) (Nat.le_of_eq hsz) ?_
    rw [← hsz]
    exact ⟨Nat.zero_le _, [], 0, .nil, Heap.get?_push_size _ rfl⟩
  have hka : kS ≠ a := fun z => by rw [z, upd_same] at fk; cases fk
  have g1 : Stp (fun b => b = a) H (upd H a (.lst [])) := Stp.write ha
  have g2 : Stp (fun b => b = a) (upd H a (.lst [])) (upd (upd H a (.lst [])) a (.frz (seqObj "list" #[] n1) (.lst []))) := Stp.ov a1 (fun _ z => nomatch z) fun _ z => nomatch z
  have q3 : Stp (fun _ => False) H0 (upd (upd H a (.lst [])) a (.frz (seqObj "list" #[] n1) (.lst []))) := ((h0.trans g1 fun b z => .inr (by subst z; exact fa)).trans g2 fun b z => .inr (by subst z; exact fa))
  have q4 := q3.trans (Stp.new (m := fun _ => False) (o := .lst []) fk) fun b z => .inl z
  have f0 : H0 kS = none := q3.dom _ fk
  have i4 : Iss X.K (upd (upd (upd H a (.lst [])) a (.frz (seqObj "list" #[] n1) (.lst []))) kS (.lst [])) vs ds := by
    refine Iss.mono (fun b xs ht => ?_) ds hi
    rcases ht with ⟨p, et, hp⟩ | k
    · have n1 : b ≠ a := fun z => by subst z; rw [ha] at et; cases et
      have n2 : b ≠ kS := fun z => by
        subst z
        rw [upd_ne n1, upd_ne n1, et] at fk
        cases fk
      exact .inl ⟨p, by rw [upd_ne n2, upd_ne n1, upd_ne n1]; exact et, hp⟩
    · exact .inr k
  exact sk_rest I4 q4 upd_same (by rw [upd_ne hka.symm, upd_same]) na f0 fa hka (by simpa using rv) i4 hz hal hsk hu turn h
/-- sorted(t, key=f), t a tuple -/
theorem sorted_tup {t q : Addr} {Q : Value → Shared → Prop} (I : L2.Inv X pins σ H s) (ht : TupAt X.K H t vs) (hi : Iss X.K H vs ds) (hz : ds.length ≤ sizeLine) (hal : AllAlike (ds.map fun d => (kd d).pd)) (hsk : Sortable (ds.map fun d => (kd d).pd)) (hu : ∀ d ∈ ds, X.A.units + 2 + (kd d).pd.depth < cLine)
    (turn : KeyCall X pins σ H X.A.in1.in1 (.ref q) ds kd)
    (h : ∀ p H' s' ys, L2.Inv X pins σ H' s' → Stp (fun _ => False) H H' → H p = none → H' p = some (.lst ys) → Iss X.K H' ys (ds.mergeSort (dataLe false fun d => (kd d).pd)) → Q (.ref p) s') :
    wpAny (model X.prog X.w) X.A (call (.builtin "sorted") [.ref t] [(Str.ofString "key", .ref q)]) Q E s := by
  obtain ⟨its, n, rv, zl, e⟩ := ht.obj I
  have lv : its.length = ds.length := by rw [← rv.length, hi.length]
  refine call_function_entry_kw kind_sorted plain_sorted entry_sorted (ksk_s1 _ _) ?_
  unfold Builtin.«sorted»
  refine wpAny_bind (m := checkCount "sorted" 1 1 _) (wpAny_pure ?_)
  refine wpAny_bind (wpAny_collect_seq t (.inr rfl) e rfl rfl (fun h1 k1 => ?_) (by rw [List.size_toArray]; omega))
  refine wpAny_bind (wpAny_newList ?_ (by simp only [List.toList_toArray]; omega))
  have I1 : L2.Inv X pins σ H { s with heap := h1 } := I.kept (t' := s.toks) k1
  have fr : H h1.objs.size = none := I1.hok.fresh (Nat.le_refl _)
  have I2 : L2.Inv X pins σ (upd H h1.objs.size (.lst vs)) { s with heap := h1.push (seqObj "list" its.toArray.toList.toArray 0) } := I1.laid (t' := s.toks) (fun b o q => Heap.get?_push_of_some _ q) (Nat.le_refl _) ⟨by rw [hi.length]; exact hz, its, 0, rv, by simpa using Heap.get?_push_size h1 (o := seqObj "list" its.toArray.toList.toArray 0) rfl⟩
  show wpAny _ _ _ _ _ { s with heap := h1.push (seqObj "list" its.toArray.toList.toArray 0) }
  refine wpAny_bind (wpAny_holding (wpAny_call_entry_kw slot_list_sort ⟨_, Heap.get?_push_size h1 (o := seqObj "list" its.toArray.toList.toArray 0) rfl, rfl⟩ entry_list_sort ?body (ksk_l1 _ _)))
  case body =>
    rw [ksk_t1]
    refine sk_tree (a := h1.objs.size) (H0 := H) I2 (Stp.new fr) upd_same fr ((Stp.new (m := fun _ => False) fr).iss (fun _ z => z.elim) hi) hz hal hsk hu turn fun H' s' ys I' q' e' i' => ?_
    exact ⟨_, rfl, wpAny_pure ⟨_, rfl, h _ H' s' ys I' q' fr e' i'⟩⟩
end
end Ib
set_option Elab.async false
set_option linter.all false
set_option autoImplicit false
set_option maxRecDepth 100000
set_option maxHeartbeats 4000000
/-! IbL: sorted(e, key=lambda a: body). -/
namespace Ib
open PySem PySem.Spec PyProof.Rows L2 TL PySem.W LamX
variable [Tabl]
/-- a lambda's scope: one parameter a, else captured names and globals -/
structure LamS1 (sc scope : Scope) (a : Str) : Prop where
  kind : scope.kind = .function
  co : scope.isCoroutine = false
  gen : scope.isGenerator = false
  nocell : ∀ y ∈ scope.names, y.2 ≠ .cell
  own : ∀ y ∈ scope.names, y.2 = .local → y.1 = a
  par : scope.names.lookup a = some .local
  free : ∀ y ∈ scope.names, y.2 = .free → sc.names.lookup y.1 = some .cell ∨ sc.names.lookup y.1 = some .free
def lamS1B (sc scope : Scope) (a : Str) : Bool :=
  decide (scope.kind = .function) && !scope.isCoroutine && !scope.isGenerator && decide (scope.names.lookup a = some .local) && scope.names.all fun y => !decide (y.2 = .cell) && (!decide (y.2 = .local) || decide (y.1 = a)) && (!decide (y.2 = .free) || decide (sc.names.lookup y.1 = some .cell) || decide (sc.names.lookup y.1 = some .free))
theorem lamS1_by {sc scope : Scope} {a : Str} (h : lamS1B sc scope a = true) : LamS1 sc scope a := by
  unfold lamS1B at h
  simp only [Bool.and_eq_true, Bool.or_eq_true, Bool.not_eq_true', decide_eq_true_eq, decide_eq_false_iff_not, List.all_eq_true] at h
  obtain ⟨⟨⟨⟨h1, h2⟩, h3⟩, h4⟩, h5⟩ := h
  refine ⟨h1, h2, h3, fun y hy => (h5 y hy).1.1, fun y hy e => ?_, h4, fun y hy e => ?_⟩
  · rcases (h5 y hy).1.2 with z | z
    · exact absurd e z
    · exact z
  · rcases (h5 y hy).2 with (z | z) | z
    · exact absurd e z
    · exact .inl z
    · exact .inr z
theorem LamS1.has {X : Cx} {scope : Scope} {a : Str} (L : LamS1 X.env.scope scope a) (ok : X.Ok) : ∀ y ∈ scope.names, y.2 = .free → ∃ c, X.env.cells.lookup y.1 = some c := fun y hy e => (L.free y hy e).elim (fun k => ok.has _ (.inl k)) fun k => ok.has _ (.inr k)
/-- the lambda's body's context -/
def lamCx1 (X : Cx) (A : Around) (s : Shared) (H : Hp) (scope : Scope) (f c' : Addr) (a : Str) : Cx where
  prog := X.prog
  w := X.w
  K := X.K
  mg := X.mg
  base := X.base
  A := A.deeper (lamEnv X scope s.heap.objs.size f c')
  N := X.N ++ [a]
  s_0 := s
  H_0 := H
  env := lamEnv X scope s.heap.objs.size f c'
  outer := X.stack
  stack := lamEnv X scope s.heap.objs.size f c' :: X.stack
  ex := []
  fn := fun _ => false
  calm := true
  pn := []
  xe := fun _ _ => False
section
variable {X : Cx} {pins : List (Addr × Obj)} {σ : L2.St} {H : Hp} {s : Shared}
theorem lam_start1 {A : Around} {scope : Scope} {f c' : Addr} {a : Str} {v : V} {u : Value} {h₁ : Heap} {tk : Nat} (I : L2.Inv X pins σ H s) (L : LamS1 X.env.scope scope a) (fr : A.frames = some X.stack) (hd : A.handled = none) (hns : h₁.Ns s.heap.objs.size fun y => ([(a, u)] : List (Str × Value)).reverse.lookup y) (r : RelV v u) (haN : a ∉ X.N)
    (kp : ∀ b o, s.heap.get? b = some o → h₁.get? b = some o) : L2.Inv (lamCx1 X A s H scope f c' a) [] (σ ++ [some v]) H { s with heap := h₁, toks := tk } := by
  have e0 := I.env0
  have hfree := L.has I.ok
  have cm : ∀ {y c}, (cloFrom X.env.cells scope.names []).lookup y = some c → X.env.cells.lookup y = some c := fun {y c} e => by
    rcases cloFrom_mem (PySem.mem_of_lookup e) with hm | ⟨h1, h2⟩
    · cases hm
    · obtain ⟨c1, hc⟩ := hfree _ h1 rfl
      have hc : X.env.cells.lookup y = some c1 := hc
      have e2 : c = c1 := by rw [h2, hc] <;> rfl
      rw [e2]
      exact hc
  have look : ∀ {y}, scope.names.lookup y = some .free → ∃ c, (cloFrom X.env.cells scope.names []).lookup y = some c := fun {y} hl => mem_lookup (cloFrom_has (cells := X.env.cells) (acc := []) (show (y, NameKind.free) ∈ scope.names from PySem.mem_of_lookup hl))
  have cellK : ∀ {c : Addr} {z : Option Value}, s.heap.IsCell c z → h₁.IsCell c z := fun {c z} ⟨o, ho, hd⟩ => ⟨o, kp _ _ ho, hd⟩
  have noA : ∀ b : Addr, b ∉ (lamCx1 X A s H scope f c' a).ex := fun b z => absurd (show b ∈ ([] : List Addr) from z) (by simp)
  refine ⟨⟨e0.mod, L.kind, rfl, rfl, Nat.le_refl _, fun y z c e1 e2 => I.ok.inj y z c (cm e1) (cm e2), fun y hy => ?_, fun y c z _ => ?_, fun _ => hd, Around.frames_deeper fr, .inr ⟨rfl, rfl⟩, fun b z => absurd z (noA b), e0.bs, e0.bsz, fun b _ _ => noA b,
      fun b z => absurd z (noA b), e0.funs, e0.frf⟩,
    rfl, e0.bare, Un.kept kp, ⟨_, hns, fun i y w e1 e2 e3 => ?_⟩, fun y c e => ?_, e0.hok.fresh (Nat.le_refl _), fun y c e => I.freeC y c (cm e), fun q hq => absurd (show q ∈ ([] : List (Addr × Obj)) ++ [] from hq) (by simp), e0.hok.kept kp, ?_⟩
  · have hy : scope.names.lookup y = some .cell ∨ scope.names.lookup y = some .free := hy
    rcases hy with hy | hy
    · exact absurd rfl (L.nocell _ (PySem.mem_of_lookup hy))
    · exact look hy
  · have z : false = true := z
    cases z
  · have e1 : (X.N ++ [a])[i]? = some y := e1
    have e3 : Vis scope y := e3
    by_cases hi : i < X.N.length
    · rw [List.getElem?_append_left hi] at e1
      rw [List.getElem?_append_left (by rw [I.len]; exact hi)] at e2
      have hya : y ≠ a := fun z => haN (by rw [← z]; exact List.mem_of_getElem? e1)
      rcases e3 with k | k | k
      · exact absurd (L.own _ (PySem.mem_of_lookup k) rfl) hya
      · exact absurd rfl (L.nocell _ (PySem.mem_of_lookup k))
      · obtain ⟨m, hn, hl⟩ := I.loc
        have hvis : Vis X.env.scope y := (L.free _ (PySem.mem_of_lookup k) rfl).elim (fun k => .inr (.inl k)) (fun k => .inr (.inr k))
        obtain ⟨w', rw', q⟩ := hl i y w e1 e2 hvis
        obtain ⟨c2, h2⟩ := look k
        refine ⟨w', rw', .inr ⟨.inr k, c2, h2, ?_⟩⟩
        have c1 := cm h2
        rcases q with ⟨k', _⟩ | ⟨_, c3, e', z⟩
        · have k' : X.env.scope.names.lookup y = some .local := k'
          rcases L.free _ (PySem.mem_of_lookup k) rfl with k2 | k2 <;> rw [show X.env.scope.names.lookup y = _ from k2] at k' <;> cases k'
        · rw [c1] at e'
          cases e'
          exact cellK z
    · have el : σ.length = X.N.length := I.len
      rw [List.getElem?_append_right (by omega)] at e1 e2
      have : i - X.N.length = 0 := by
        have := (List.getElem?_eq_some_iff.mp e1).1
        simpa using this
      rw [this] at e1
      rw [el, this] at e2
      have e1 : a = y := by simpa using e1
      have e2 : v = w := by simpa using e2
      subst e1 e2
      exact ⟨u, r, .inl ⟨L.par, by simp⟩⟩
  · obtain ⟨w', z⟩ := I.cell y c (cm e)
    exact ⟨w', cellK z⟩
  · show (σ ++ [some v]).length = (X.N ++ [a]).length
    rw [List.length_append, List.length_append, I.len]
    rfl
/-- the lambda's object at f, its code at c' -/
def LamO (X : Cx) (q : Str) (params : Arguments) (body : Expr) (scope : Scope) (c' f : Addr) : HO := .ext fun h => ∃ (pm ctv : Value), h.get? f = some (PySem.W.kla_obj "<lambda>" q params body scope (cloFrom X.env.cells scope.names []) pm c' ctv)
/-- lambda(u) -/
theorem lam_call {A : Around} {params : Arguments} {body : Expr} {scope : Scope} {f c' : Addr} {a : Str} {v : V} {u : Value} {k : Nat} {tb : TE} {Q : VK} {E : Value → Shared → Prop} (I : L2.Inv X pins σ H s) (L : LamS1 X.env.scope scope a) (fr : A.frames = some X.stack) (hr : Room (k + 1) A) (haN : a ∉ X.N)
    (hf : H f = some (LamO X (X.env.qual ++ "<lambda>") params body scope c' f)) (hco : H c' = some (CodeO c' (X.env.qual ++ "<lambda>"))) (hbind : ∀ (q : Str) (cl : List (Str × Addr)) (pm cv ctv : Value), bindArgs (PySem.W.kla_fn "<lambda>" q params body scope cl pm cv ctv) ⟨[u], []⟩ = pure [(a, u)]) (r : RelV v u)
    (hbody : ∀ (A : Around) (s : Shared) (H : Hp), Room k (A.deeper (lamEnv X scope s.heap.objs.size f c')) → PE (lamCx1 X A s H scope f c' a) body tb) (h : tb (σ ++ [some v]) H Q) : wpAny (model X.prog X.w) A (call (.ref f) [u]) (EP X pins σ Q) E s := by
  obtain ⟨⟨pm, ctv, of1⟩, _⟩ := I.hok f _ hf
  obtain ⟨⟨oc, vs, t, hoc, hdc, hvc⟩, _, _⟩ := I.hok c' _ hco
  have rc : codeAny (model X.prog X.w) A (.call (.ref f) ⟨[u], []⟩) (CR L2.CX0 X.stack X.prog X.w H s Q L2.E0) s := by
    refine PySem.W.kla_callFunE hr.depth of1 rfl L.co L.gen rfl ⟨c', oc, vs, t, rfl, hoc, hdc, hvc⟩ ?_
    rw [hbind]
    refine wpAny_pure (wpAny_newFunctionEnv L.nocell (fun y hy => ?_) (fun h₁ hns hsb => ⟨I.nolimit.fresh _ hsb, ?_⟩) L.kind)
    · have : y = (a, u) := by simpa using hy
      subst this
      exact L.par
    show codeAny _ _ (.expr body (lamEnv X scope s.heap.objs.size f c')) _ _
    have kp : ∀ b o, s.heap.get? b = some o → h₁.get? b = some o := fun b o e => hsb.extBut b o (Nat.ne_of_lt (Heap.lt_size e)) (Heap.get?_push_of_some _ e)
    have J : L2.Inv (lamCx1 X A s H scope f c' a) [] (σ ++ [some v]) H { s with heap := h₁, toks := s.toks + ([(a, u)] : List (Str × Value)).length } := lam_start1 I L fr hr.hd hns r haN kp
    refine PySem.W.kla_codeExpr (wpAny_mono ((hbody A s H (hr.deeper _)).run [] _ _ H Q J h) (fun z s' hq => ?_) fun e s' hq => hq.elim)
    obtain ⟨w', H', J', rv, q⟩ := hq
    exact ⟨w', H', J'.os, J'.bare, J'.base, J'.hok, rv, q⟩
  refine wpAny_call (codeAny_mono rc fun r s' hq => ?_)
  cases r with
  | error e => exact (show False from hq).elim
  | ok fl =>
    cases fl with
    | ret u => exact I.after hq
    | next => exact False.elim hq
    | brk => exact False.elim hq
    | cont => exact False.elim hq
/-- the lambda is made -/
theorem lam_new {c P : Addr} {params : Arguments} {body : Expr} {scope : Scope} {pos : Pos} {a : Str} {E : Value → Shared → Prop} {Q : Value → Shared → Prop} (I : L2.Inv X pins σ H s) (TB : LamX.TabB X.base X.mg c P) (hcode : X.env.code = .ref c) (hm : (P, X.env.qual ++ "<lambda>") ∈ Tabl.T)
    (hu : ∀ p ∈ Tabl.T, p.1 = P → p.2 = X.env.qual ++ "<lambda>") (hT : Tbs H) (hdef : defaultsOf params X.env = ([], [])) (L : LamS1 X.env.scope scope a)
    (h : ∀ (f c' : Addr) (H1 : Hp) (s' : Shared), L2.Inv X pins σ H1 s' → Stp (fun _ => False) H H1 → H1 f = some (LamO X (X.env.qual ++ "<lambda>") params body scope c' f) → H1 c' = some (CodeO c' (X.env.qual ++ "<lambda>")) → Q (.ref f) s') :
    wpAny (model X.prog X.w) X.A (eval (.Lambda params body scope pos) X.env) Q E s := by
  obtain ⟨ps, hP, ht, ha⟩ := hT _ hm
  refine PySem.W.kla_eval hdef ?_
  have bP : s.heap.BuiltinsAt X.mg P := TB.bm.keeps I.bk
  have hP' : s.heap.get? P = some { cls := .none, data := .fields ps } := I.hok P _ hP
  have track : ∀ {H1 : Hp} {s1 : Shared} {c' : Addr} {pm ctv : Value} {g : Heap} {tk : Nat}, L2.Inv X pins σ H1 s1 → (∀ b o, s1.heap.get? b = some o → g.get? b = some o) → s1.heap.objs.size ≤ g.objs.size → Stp (fun _ => False) H H1 → H1 c' = some (CodeO c' (X.env.qual ++ "<lambda>")) →
      Q (.ref g.objs.size) { s1 with heap := g.push (PySem.W.kla_obj "<lambda>" (X.env.qual ++ "<lambda>") params body scope (cloFrom X.env.cells scope.names []) pm c' ctv), toks := tk } := fun {H1 s1 c' pm ctv g tk} J k hz st hc => by
    have hn : H1 g.objs.size = none := J.hok.fresh hz
    have e := Heap.get?_push_size g (o := PySem.W.kla_obj "<lambda>" (X.env.qual ++ "<lambda>") params body scope (cloFrom X.env.cells scope.names []) pm c' ctv) rfl
    refine h g.objs.size c' (upd H1 g.objs.size (LamO X (X.env.qual ++ "<lambda>") params body scope c' g.objs.size)) _ (J.laid (t' := tk) (fun b o q => Heap.get?_push_of_some _ (k b o q)) hz ?_) (st.trans (Stp.new (m := fun _ => False) hn) fun _ z => .inl z) upd_same (by rw [upd_ne (ne_of_none hc hn)]; exact hc)
    exact ⟨⟨pm, ctv, e⟩, ⟨_, e⟩, fun h1 h2 ⟨pm, ctv, q⟩ t => ⟨pm, ctv, t _ q⟩⟩
  cases hc : codeAmong pos ps.toList with
  | none =>
    refine PySem.W.kla_makeFunction (mg := X.mg) (c := c) (P := P) (ps := ps) (closure_ok (L.has I.ok)) I.ok.glob (I.mod.glob.keeps I.bk) hcode (TB.code.keeps I.bk) hP' ht hc TB.gP bP fun c' ctv h' tk hx hge hlt hrec htb => ?_
    obtain ⟨c2, oc, vs, t, e2, hoc, hd, hv⟩ := hrec
    cases e2
    have nC : H c' = none := I.hok.fresh hge
    have I1 := LamX.inv_table (t' := tk) (more := #[rawInt pos.line, rawInt pos.col, .ref c']) (h' := h') I hP (fun b o hb e => hx b o hb e) htb hge ⟨oc, vs, t, hoc, hd, hv⟩
    have st : Stp (fun _ => False) H (upd (upd H P (.tbl (ps ++ #[rawInt pos.line, rawInt pos.col, .ref c']))) c' (CodeO c' (X.env.qual ++ "<lambda>"))) := by
      have kp : ∀ b o, H b = some o → (∀ qs, o ≠ .tbl qs) → upd (upd H P (.tbl (ps ++ #[rawInt pos.line, rawInt pos.col, .ref c']))) c' (CodeO c' (X.env.qual ++ "<lambda>")) b = some o := fun b o e t => by
        rw [upd_ne (ne_of_none e nC), upd_ne fun z => by subst z; rw [hP] at e; injection e with e; exact t _ e.symm]
        exact e
      refine ⟨fun b o e _ t => kp b o e t, fun b e => ?_, fun t0 p hp => ?_⟩
      · by_cases h1 : b = c'
        · subst h1; exact nC
        · rw [upd_ne h1] at e
          by_cases h2 : b = P
          · subst h2; rw [upd_same] at e; cases e
          · rw [upd_ne h2] at e; exact e
      · obtain ⟨ps', a1, a2, a3⟩ := t0 p hp
        by_cases hb : p.1 = P
        · rw [hu p hp hb, hb]
          have eL : (ps ++ #[rawInt pos.line, rawInt pos.col, .ref c']).toList = ps.toList ++ [rawInt pos.line, rawInt pos.col, .ref c'] := by simp
          refine ⟨_, by rw [upd_ne (ne_of_none hP nC), upd_same], by rw [eL]; exact PySem.TriplesOk_snoc _ _ _ _ ht, fun p' cv hcv => ?_⟩
          rw [eL] at hcv
          rcases LamX.among_app _ ht hcv with z | z
          · obtain ⟨c0, e1, e2⟩ := ha p' cv z
            exact ⟨c0, e1, kp _ _ e2 codeO_ne⟩
          · exact ⟨c', z, upd_same⟩
        · refine ⟨ps', by rw [upd_ne (ne_of_none a1 nC), upd_ne hb]; exact a1, a2, fun p' cv hcv => ?_⟩
          obtain ⟨c0, e1, e2⟩ := a3 p' cv hcv
          exact ⟨c0, e1, kp _ _ e2 codeO_ne⟩
    exact track (s1 := { s with heap := h', toks := tk }) I1 (fun b o e => e) (Nat.le_refl _) st upd_same
  | some cv =>
    obtain ⟨c', e, hco⟩ := ha pos cv hc
    subst e
    refine PySem.W.kla_makeFunctionHit (mg := X.mg) (c := c) (P := P) (ps := ps) (closure_ok (L.has I.ok)) I.ok.glob (I.mod.glob.keeps I.bk) hcode (TB.code.keeps I.bk) hP' ht hc bP fun ctv h' tk hx hsz => ?_
    exact track I hx hsz (Stp.refl _ _) hco
end
/-! ### the rule -/
/-- sorted(e, key=lambda a: ..): the slots hold data alone -/
def dSortK (de kb : DE) : DE := fun δ R => de δ fun w δ1 => match w with
  | .d (.tup xs) => (∀ (i : Nat) (u : U), δ1[i]? = some (some u) → ∃ x, u = .d x) ∧ xs.length ≤ sizeLine ∧ ∃ kd : D → D, AllAlike (xs.map fun d => (kd d).pd) ∧ Sortable (xs.map fun d => (kd d).pd) ∧ (∀ x ∈ xs, (kd x).pd.depth ≤ 60) ∧
      (∀ x ∈ xs, ∀ R' : U → DEnv → Prop, (∀ δ', R' (.d (kd x)) δ') → kb (δ1 ++ [some (.d x)]) R') ∧ R (.lst (xs.mergeSort (dataLe false fun d => (kd d).pd))) δ1
  | _ => False
section
variable {X : Cx} {e body : Expr} {params : Arguments} {scope : Scope} {a : Str} {c P : Addr} {k : Nat} {de kb : DE} {p lpos kpos pos : Pos}
theorem env_data {K : PySem.W.Frag} {σ : St} {H : Hp} {δ : DEnv} (E : EnvOk K σ H δ) (hd : ∀ (i : Nat) (u : U), δ[i]? = some (some u) → ∃ x, u = .d x) {v : V} {x : D} (hv : Is K H v x) : EnvOk K (σ ++ [some v]) H (δ ++ [some (.d x)]) ∧ ∀ b, ¬ M (σ ++ [some v]) (δ ++ [some (.d x)]) b := by
  have gd : ∀ {i : Nat} {u : U}, (δ ++ [some (.d x)])[i]? = some (some u) → (δ[i]? = some (some u) ∧ i < δ.length) ∨ (i = δ.length ∧ u = .d x) := fun {i u} h => by
    by_cases hi : i < δ.length
    · rw [List.getElem?_append_left hi] at h
      exact .inl ⟨h, hi⟩
    · rw [List.getElem?_append_right (by omega)] at h
      have h0 : i - δ.length = 0 := by
        have := (List.getElem?_eq_some_iff.mp h).1
        simpa using this
      rw [h0] at h
      refine .inr ⟨by omega, ?_⟩
      have h : U.d x = u := by simpa using h
      exact h.symm
  have dat : ∀ (i : Nat) (u : U), (δ ++ [some (.d x)])[i]? = some (some u) → ∃ x, u = .d x := fun i u h => by
    rcases gd h with ⟨h, _⟩ | ⟨_, h⟩
    · exact hd i u h
    · exact ⟨x, h⟩
  refine ⟨⟨E.tab, by rw [List.length_append, List.length_append, E.len]; rfl, fun i u h => ?_, fun i j v1 w1 v2 w2 b hij q1 q2 q3 q4 f => ?_⟩, fun b m => M_data dat m⟩
  · rcases gd h with ⟨h, hl⟩ | ⟨hi, hu⟩
    · obtain ⟨z, e1, hz⟩ := E.has i u h
      exact ⟨z, by rw [List.getElem?_append_left (by rw [E.len]; exact hl)]; exact e1, hz⟩
    · subst hu hi
      exact ⟨v, by rw [← E.len, List.getElem?_append_right (Nat.le_refl _)]; simp, hv⟩
  · obtain ⟨y, rfl⟩ := dat i w1 q2
    cases v1 <;> exact f.elim
theorem de_sortK (hg : Gl X "sorted") (hm : X.mg "sorted" = none) (TB : LamX.TabB X.base X.mg c P) (hcode : X.env.code = .ref c) (hmT : (P, X.env.qual ++ "<lambda>") ∈ Tabl.T) (hu : ∀ p ∈ Tabl.T, p.1 = P → p.2 = X.env.qual ++ "<lambda>") (hr : Room (k + 3) X.A) (L : LamS1 X.env.scope scope a) (haN : a ∉ X.N)
    (hdef : defaultsOf params X.env = ([], [])) (hbind : ∀ (u : Value) (q : Str) (cl : List (Str × Addr)) (pm cv ctv : Value), bindArgs (PySem.W.kla_fn "<lambda>" q params body scope cl pm cv ctv) ⟨[u], []⟩ = pure [(a, u)]) (he : PE X e (up X.K de))
    (hb : ∀ (A : Around) (s : Shared) (H : Hp) (f c' : Addr), Room k (A.deeper (lamEnv X scope s.heap.objs.size f c')) → PE (lamCx1 X A s H scope f c' a) body (up X.K kb))
    (hst : backTo pos (starEach [e] X.env) = (false, eval e X.env) :: backTo pos (starEach [] X.env) := by rfl) (hpl : (backTo pos (starEach [e] X.env)).any (·.1) = false := by rfl) (hes : starEach [e] X.env = (false, eval e X.env) :: starEach [] X.env := by rfl)
    (hall : (backToKw pos (keywordEach [⟨some "key", .Lambda params body scope lpos, kpos⟩] X.env)).all (·.1.isSome) = true := by rfl) (hnone : (backToKw pos (keywordEach [⟨some "key", .Lambda params body scope lpos, kpos⟩] X.env)).any (·.1.isNone) = false := by rfl)
    (hks : (backToKw pos (keywordEach [⟨some "key", .Lambda params body scope lpos, kpos⟩] X.env)).filterMap (·.1) = [Str.ofString "key"] := by rfl) :
    PE X (.Call (.Name "sorted" p) [e] [⟨some "key", .Lambda params body scope lpos, kpos⟩] pos) (up X.K (dSortK de kb)) := by
  refine ⟨fun pins s σ H Q I ⟨δ, R, E, h, q⟩ => ?_⟩
  refine wpAny_Call_Name_kw (ld_blt I hg hm (show bootBuiltins "sorted" = some (.builtin "sorted") by decide +kernel) ?_ (by decide) (by decide))
  refine PyProof.Rows.callWith_kw (thn ((pa_cons (X := X) he pa_nil hes).run pos pins s σ H (fun vs H1 => ∃ w δ1 v, vs = [v] ∧ AR X.K σ δ H δ1 H1 ∧ VT X.K σ H H1 δ1 v w ∧ (match w with
      | .d (.tup xs) => (∀ (i : Nat) (u : U), δ1[i]? = some (some u) → ∃ x, u = .d x) ∧ xs.length ≤ sizeLine ∧ ∃ kd : D → D, AllAlike (xs.map fun d => (kd d).pd) ∧ Sortable (xs.map fun d => (kd d).pd) ∧ (∀ x ∈ xs, (kd x).pd.depth ≤ 60) ∧
          (∀ x ∈ xs, ∀ R' : U → DEnv → Prop, (∀ δ', R' (.d (kd x)) δ') → kb (δ1 ++ [some (.d x)]) R') ∧ R (.lst (xs.mergeSort (dataLe false fun d => (kd d).pd))) δ1
      | _ => False)) I ⟨δ, _, E, h, fun w δ1 v H1 h1 a1 t1 => ⟨w, δ1, v, rfl, a1, t1, h1⟩⟩) fun us s1 ⟨vs, H1, I1, r1, w, δ1, v, e1, a1, t1, h1⟩ => ?_) hst hpl hall hnone
  subst e1
  rw [hks]
  obtain ⟨u, rfl, ru⟩ := vals1 r1
  show wpAny _ _ (evalAll ((do let v ← eval (.Lambda params body scope lpos) X.env; standAt pos; pure v) :: [])) _ _ s1
  refine wpAny_evalAll_cons (wpAny_bind (lam_new I1 TB hcode hmT hu a1.env.tab hdef L fun f c' H2 s2 I2 st2 ef ec => wpAny_bind (wpAny_standAt (wpAny_pure ?_))))
  refine wpAny_evalAll_nil ?_
  cases w with
  | d d0 =>
    cases d0 with
    | tup xs =>
      obtain ⟨hdat, hz, kd, hal, hsk, hdp, hkey, hR⟩ := h1
      have E2 : EnvOk X.K σ H2 δ1 := a1.env.keep st2 (fun _ z => z.elim) (fun _ z => z.elim)
      have t2 : Is X.K H2 v (.tup xs) := st2.is (fun _ z => z.elim) t1
      cases t2 with
      | @tup t vs _ ht hi =>
        cases ru
        show wpAny _ _ (call (.builtin "sorted") [.ref t] [(Str.ofString "key", .ref f)]) _ _ s2
        have hun := hr.units
        refine sorted_tup (kd := kd) I2 ht hi hz hal hsk (fun d hd => by have := hdp d hd; omega) (fun v' u' d H3 s3 I3 st3 ruv hiv hd => ?_) fun p H3 s3 ys I3 st3 hp ep iy => ?_
        · have ef3 := st3.kp f _ ef (fun z => z) (fun _ z => by unfold LamO at z; cases z)
          have ec3 := st3.kp c' _ ec (fun z => z) codeO_ne
          have E3 : EnvOk X.K σ H3 δ1 := E2.keep st3 (fun _ z => z.elim) (fun _ z => z.elim)
          obtain ⟨E4, nM⟩ := env_data E3 hdat hiv
          have hr2 : Room (k + 1) X.A.in1.in1 := hr.in1.in1
          refine wpAny_mono (lam_call (A := X.A.in1.in1) (tb := up X.K kb) (Q := fun y H4 => Stp (fun _ => False) H3 H4 ∧ Is X.K H4 y (kd d)) (E := fun _ _ => False) I3 L I3.ok.frames hr2 haN ef3 ec3 (hbind u') ruv (fun A s H hr' => hb A s H f c' hr') ?_) (fun ku s4 hq => ?_) fun _ _ z => z
          · refine ⟨_, fun w _ => w = .d (kd d), E4, hkey d hd _ fun _ => rfl, fun w δ' y H4 hw a4 t4 => ?_⟩
            subst hw
            exact ⟨a4.st.weak nM, t4⟩
          · obtain ⟨y, H4, I4, ry, q1, q2⟩ := hq
            exact ⟨y, H4, I4, q1, ry, q2⟩
        · refine ⟨.ref p, H3, I3, rfl, ?_⟩
          have st := st2.trans st3 fun _ z => .inl z
          refine q _ _ _ _ hR (a1.trans (AR.stp a1.env st)) ⟨⟨p, ys, rfl, ep, iy⟩, fun b hb => ?_⟩
          have hb : b = p := hb
          subst hb
          exact a1.st.dom _ (st2.dom _ hp)
    | _ => exact h1.elim
  | _ => exact h1.elim
end
end Ib
set_option Elab.async false
set_option linter.all false
set_option autoImplicit false
set_option maxRecDepth 100000
set_option maxHeartbeats 4000000
/-! Ib9: list(text), data compared at depth, xs[::-1], xs[i] = e, calls by names of arguments. -/
namespace Ib
open PySem PySem.Spec PyProof.Rows L2 TL
variable [Tabl]
/-! ### list(text) -/
theorem items_vals {x : Str} {acc : Array Value} (h : ItemsOf (SignAt x) acc x.cps.size) : Vals (x.cps.toList.map fun c => V.str ⟨#[c]⟩) acc.toList := by
  obtain ⟨hs, hi⟩ := h
  have : ∀ (l : List Nat) (us : List Value) (k : Nat), us.length = l.length → (∀ (j : Nat) (v : Value), us[j]? = some v → ∃ c u, l[j]? = some c ∧ v = .str ⟨#[c]⟩ u) → Vals (l.map fun c => V.str ⟨#[c]⟩) us := by
    intro l
    induction l with
    | nil => intro us k hl _; cases us with | nil => exact .nil | cons _ _ => simp at hl
    | cons c l ih =>
      intro us k hl h
      cases us with
      | nil => simp at hl
      | cons u us =>
        obtain ⟨c', t, e1, e2⟩ := h 0 u rfl
        have e1 : c = c' := by simpa using e1
        subst e1 e2
        exact .cons ⟨t, rfl⟩ (ih us k (by simpa using hl) fun j v hj => by simpa using h (j + 1) v (by simpa using hj))
  refine this _ _ 0 (by simpa using hs) fun j v hj => ?_
  obtain ⟨c, u, e1, e2⟩ := hi j v (by simpa using hj)
  exact ⟨c, u, by simpa using e1, e2⟩
section
variable {X : Cx}
theorem call_listS (hc : X.calm = true) : CallR X (.type "list") (fun xs H Q => ∃ z : Str, xs = [.str z] ∧ z.length ≤ sizeLine ∧ ∀ p, H p = none → Q (.ref p) (upd H p (.lst (z.cps.toList.map fun c => V.str ⟨#[c]⟩)))) := by
  intro pins s σ H xs us Q I r h
  obtain ⟨z, rfl, hz, q⟩ := h
  obtain ⟨u, rfl, rx⟩ := vals1 r
  obtain ⟨t, rfl⟩ := rx
  have hz' : z.cps.size ≤ sizeLine := hz
  refine call_list_str (I.ok.hd hc) z t (fun h' tk acc c hk e hacc => ?_) hz'
  have fr : H s.heap.objs.size = none := I.hok.fresh (Nat.le_refl _)
  have rv := items_vals hacc
  refine ⟨.ref s.heap.objs.size, _, I.laid (o := .lst (z.cps.toList.map fun c => V.str ⟨#[c]⟩)) (t' := tk) hk (Nat.le_refl _) ⟨?_, acc.toList, c, rv, by simpa using e⟩, rfl, q _ fr⟩
  rw [List.length_map]
  simpa using hz'
end
@[simp] def fListS : U → DEnv → (U → DEnv → Prop) → Prop := fun w δ R => match w with
  | .d (.str l) => l.length ≤ sizeLine ∧ R (.lst (signs1 l)) δ
  | _ => False
theorem iss_signs {K : PySem.W.Frag} {H : Hp} : ∀ l : Cs, Iss K H (l.map fun c => V.str ⟨#[c]⟩) (signs1 l)
  | [] => .nil
  | c :: l => .cons (Is.str [c]) (iss_signs l)
theorem lift_listS {K : PySem.W.Frag} : LiftA K (fun xs H Q => ∃ z : Str, xs = [.str z] ∧ z.length ≤ sizeLine ∧ ∀ p, H p = none → Q (.ref p) (upd H p (.lst (z.cps.toList.map fun c => V.str ⟨#[c]⟩)))) (vOne fListS) := lift1 fun σ δ H H0 v w R Q E _ t hd q => by
  cases w with
  | d x =>
    cases x with
    | str l =>
      cases (show Is K H v (.str l) from t)
      refine ⟨S l, rfl, by rw [S_len]; exact hd.1, fun p hp => q _ _ _ _ hd.2 (AR.new E hp) (lst_new hp hp ?_)⟩
      rw [S_tl]
      exact iss_signs l
    | _ => exact hd.elim
  | _ => exact hd.elim

/-! ### data compared at depth -/
abbrev eqD (a b : D) : Bool := PyData.eqv a.pd b.pd
abbrev shp (a : D) : Prop := SeqAt.shaped a.pd = true
@[simp] def vEqD (neg : Bool) : V2 := fun x y δ R => match x, y with
  | .d a, .d b => shp a ∧ shp b ∧ R (.d (.bl (if neg then !eqD a b else eqD a b))) δ
  | _, _ => False
theorem lift_eqD {K : PySem.W.Frag} : Lift2 K (rEqD K) (vEqD false) := by
  intro σ δ H H0 x y w1 w2 R Q E _ t1 t2 hd q
  cases w1 with
  | d a =>
    cases w2 with
    | d b => exact ⟨a.pd, b.pd, Is.dp a t1, Is.dp b t2, hd.1, hd.2.1, q _ _ _ H hd.2.2 (AR.refl E) (Is.bl _)⟩
    | _ => exact hd.elim
  | _ => cases w2 <;> exact hd.elim
theorem lift_neD {K : PySem.W.Frag} : Lift2 K (rNeD K) (vEqD true) := by
  intro σ δ H H0 x y w1 w2 R Q E _ t1 t2 hd q
  cases w1 with
  | d a =>
    cases w2 with
    | d b => exact ⟨a.pd, b.pd, Is.dp a t1, Is.dp b t2, hd.1, hd.2.1, q _ _ _ H hd.2.2 (AR.refl E) (Is.bl _)⟩
    | _ => exact hd.elim
  | _ => cases w2 <;> exact hd.elim
/-- x not in a list of data -/
@[simp] def vNotInD : V2 := fun x y δ R => match x with
  | .d a => (match lstU δ y with
    | some xs => shp a ∧ SeqAt.shaped (.list (D.pds xs)) = true ∧ R (.d (.bl (!xs.any fun z => eqD z a))) δ
    | none => False)
  | _ => False
theorem any_pds (xs : List D) (f : PyData → Bool) : (D.pds xs).any f = xs.any fun z => f z.pd := by
  rw [pds_map, List.any_map]
  rfl
theorem lift_notInD {K : PySem.W.Frag} : Lift2 K (rNotInD K) vNotInD := by
  intro σ δ H H0 x y w1 w2 R Q E _ t1 t2 hd q
  unfold vNotInD at hd
  cases w1 with
  | d a =>
    cases e : lstU δ w2 with
    | none => simp only [e] at hd
    | some xs =>
      simp only [e] at hd
      obtain ⟨b, vs, rfl, hb, hi⟩ := lstU_of E t2 e
      refine ⟨a.pd, D.pds xs, Is.dp a t1, .lst (.of hb) (Iss.dp xs hi), hd.1, hd.2.1, ?_⟩
      rw [any_pds]
      exact q _ _ _ H hd.2.2 (AR.refl E) (Is.bl _)
  | _ => exact hd.elim
/-- x < y, alike tuples -/
def rLtD (K : PySem.W.Frag) : R2 := fun x y H Q => ∃ d e, Dp K H x d ∧ Dp K H y e ∧ PySem.W.alike d e = true ∧ d ≠ .none ∧ d.depth ≤ 60 ∧ Q (.bl (PySem.W.dataLt d e)) H
theorem op_ltD {X : Cx} (hu : X.A.units + 64 < cLine) : OpR X (compareOp .Lt) (rLtD X.K) := by
  intro pins s σ H x y v u Q I rx ry h
  obtain ⟨d, e, hd, he, al, nn, dp, q⟩ := h
  obtain ⟨as, r1⟩ := Dp.reads I d x v hd rx
  obtain ⟨bs, r2⟩ := Dp.reads I e y u he ry
  exact PySem.W.rcLt_alike d e _ _ _ _ as bs r1 r2 al nn (by have := Nat.min_le_left d.depth e.depth; omega) _ _ _ _ ⟨.bl _, H, I, rfl, q⟩
@[simp] def vLtD : V2 := fun x y δ R => match x, y with
  | .d a, .d b => PySem.W.alike a.pd b.pd = true ∧ a.pd ≠ .none ∧ a.pd.depth ≤ 60 ∧ R (.d (.bl (PySem.W.dataLt a.pd b.pd))) δ
  | _, _ => False
theorem lift_ltD {K : PySem.W.Frag} : Lift2 K (rLtD K) vLtD := by
  intro σ δ H H0 x y w1 w2 R Q E _ t1 t2 hd q
  cases w1 with
  | d a =>
    cases w2 with
    | d b => exact ⟨a.pd, b.pd, Is.dp a t1, Is.dp b t2, hd.1, hd.2.1, hd.2.2.1, q _ _ _ H hd.2.2.2 (AR.refl E) (Is.bl _)⟩
    | _ => exact hd.elim
  | _ => cases w2 <;> exact hd.elim

/-! ### xs[::-1], xs[i] = e -/
@[simp] def dRev (de : DE) : DE := fun δ R => de δ fun w δ1 => match lstU δ1 w with
  | some xs => R (.lst xs.reverse) δ1
  | none => False
section
variable {X : Cx} {e o i : Expr} {de do_ di : DE} {k : Nat} {p1 p2 p3 pos spos : Pos} {np : Nat → Prop}
theorem de_rev (h : PE X e (up X.K de)) : PE X (.Subscript e (.Slice none none (some (.UnaryOp .USub (.Constant (.int 1) k p1) p2)) p3) pos) (up X.K (dRev de)) := PE.imp (pe_revL h) fun σ H Q ⟨δ, R, E, h, q⟩ => ⟨δ, _, E, h, fun w δ1 v H1 h1 a1 t1 => by
  cases z : lstU δ1 w with
  | none => simp only [z] at h1
  | some xs =>
    simp only [z] at h1
    obtain ⟨a, us, rfl, ha, hi⟩ := lstU_of a1.env t1 z
    exact ⟨a, us, rfl, .of ha, fun p hp => q _ _ _ _ h1 (a1.trans (AR.new a1.env hp)) (lst_new hp (a1.st.dom p hp) hi.reverse)⟩⟩
/-- xs[i] = e, xs a list of one's own -/
@[simp] def sSetIx (de do_ di : DE) : DS := fun R δ => de δ fun w δ1 => match w with
  | .d x => do_ δ1 fun wo δ2 => (match wo with
    | .bor j => di δ2 fun wi δ3 => (match wi, δ3[j]? with
      | .d (.int k), some (some (.lst xs)) => (match ixN xs.length k with
        | some n => R.nx (δ3.set j (some (.lst (xs.set n x))))
        | none => False)
      | _, _ => False)
    | _ => False)
  | _ => False
theorem ds_setIx (he : PE X e (up X.K de)) (ho : PE X o (up X.K do_)) (hi : PE X i (up X.K di)) (hs : swapsWithSole [.Subscript o i pos] e spos.line X.env = pure false := by rfl) (hw : swappedStores [.Subscript o i pos] e X.env = pure none := by rfl)
    (h1 : (assignEach [.Subscript o i pos] X.env).map (·.2) = [assign (.Subscript o i pos) X.env] := by rfl)
    (ha : ∀ v, assign (.Subscript o i pos) X.env v = (do
      let ov ← holding [v] (eval o X.env)
      let iv ← holding [v, ov] (eval i X.env)
      standAt pos
      holding [v, ov, iv] (setItem ov iv v)
      release [v, ov, iv] []) := by intro _; rfl) : PS X (.Assign [.Subscript o i pos] e spos) (upS X.K np (sSetIx de do_ di)) :=
  PS.imp (ps_asg he (pg_sub ho hi set_list ha) hs hw h1) fun D σ H ⟨δ, R, E, h, q1, q2, q3, q4⟩ => ⟨δ, _, E, h, fun w δ1 v H1 h1 a1 t1 => by
    cases w with
    | d x =>
      refine ⟨δ1, _, a1.env, h1, fun wo δ2 vo H2 h2 a2 t2 => ?_⟩
      cases wo with
      | bor j =>
        refine ⟨δ2, _, a2.env, h2, fun wi δ3 vi H3 h3 a3 t3 => ?_⟩
        split at h3
        · rename_i k xs ej
          split at h3
          · rename_i n hn
            cases (show Is X.K H3 vi (.int k) from t3)
            obtain ⟨vj, e1, a, us, rfl, ea, hi⟩ := a3.env.has j _ ej
            have t2' := t2.1
            rw [e1] at t2'
            cases t2'
            have t1' : Is X.K H3 v x := (a2.trans a3).st.is (fun b m => a1.env.own m) t1
            refine ⟨a, us, k, n, rfl, rfl, ea, by rw [hi.length]; exact hn, ?_⟩
            have w := a3.env.write e1 ej (hi.set t1' n)
            exact q1 _ _ _ h3 (((a1.trans a2).trans a3).trans w).sr
          · exact h3.elim
        · exact h3.elim
      | _ => exact h2.elim
    | _ => exact h1.elim⟩
end

/-! ### calls by names of arguments -/
theorem PK.imp {X : Cx} {e : List Keyword} {t t' : TA} (h : PK X e t) (i : ∀ σ H Q, t' σ H Q → t σ H Q) : PK X e t' := ⟨fun pos pins s σ H Q I q => h.run pos pins s σ H Q I (i _ _ _ q)⟩
@[simp] def dCallK (psp : PSp) (perm : List D → List D) (da : DA) : DE := fun δ R => da δ fun ws δ1 => match allD ws with
  | some ds => psp (perm ds) fun w => R w δ1
  | none => False
section
variable {X : Cx} {k : Nat} {f : Addr} {fd : FuncData} {ps ks : List Str} {psp : PSp} {x : Str} {p pos kpos : Pos} {e : Expr} {kws : List Keyword} {de : DE} {da : DA} {nm : Option Str} {g : List Value → List Value → List Value} {gV : List V → List V → List V} {perm : List D → List D}
theorem dk_nil : PK X [] (upA X.K dNil) := PK.imp pk_nil fun _ _ _ ⟨δ, R, E, h, q⟩ => q _ _ _ _ h (AR.refl E) .nil
theorem dk_cons (ha : PE X e (up X.K de)) (hr : PK X kws (upA X.K da)) : PK X (⟨nm, e, kpos⟩ :: kws) (upA X.K (dCons de da)) :=
  PK.imp (pk_cons ha hr) fun _ _ _ ⟨δ, R, E, h, q⟩ => ⟨δ, _, E, h, fun w δ1 v H1 h1 a1 t1 => ⟨δ1, _, a1.env, h1, fun ws δ2 vs H2 h2 a2 t2 =>
    q _ _ _ _ h2 (a1.trans a2) (.cons (t1.carry a1.env a2 (a1.own_old E)) (paired_back a1.st.dom t2))⟩⟩
theorem de_callK (F : FnOk X.prog X.w X.K X.mg X.base CX0 k f fd ps (spP X.K psp)) (hr : Room k X.A) (hg : Gl X x) (hm : X.mg x = some (.ref f)) (hk : PySem.W.keepIn X.K (.ref f) = true) (hb : KBinds X.K fd ps ks g gV)
    (hp : ∀ (H : Hp) (vs : List V) (ds : List D), Iss X.K H vs ds → Iss X.K H (gV [] vs) (perm ds)) (hkw : PK X kws (upA X.K da)) (hall : (backToKw pos (keywordEach kws X.env)).all (·.1.isSome) = true := by rfl) (hks : (backToKw pos (keywordEach kws X.env)).filterMap (·.1) = ks := by rfl)
    (hdb : (x == ("__debug__" : Str)) = false := by decide) (hpl : ((backTo pos (starEach [] X.env)).any (·.1) || (backToKw pos (keywordEach kws X.env)).any (·.1.isNone)) = false := by rfl) :
    PE X (.Call (.Name x p) [] kws pos) (up X.K (dCallK psp perm da)) := by
  refine ⟨fun pins s σ H Q I ⟨δ, R, E, h, q⟩ => ?_⟩
  refine wpAny_Call_Name_kw (ld_glob I hg hm ?_ hdb)
  refine PySem.W.callWith_KW0 (h₀ := X.base) I.ok.mod.kin hk hall (thn (hkw.run pos pins s σ H (fun zs H1 => ∃ ws δ1, AR X.K σ δ H δ1 H1 ∧ Paired (VT X.K σ H H1 δ1) zs ws ∧ (match allD ws with
    | some ds => psp (perm ds) fun w => R w δ1
    | none => False)) I ⟨δ, _, E, h, fun ws δ1 vs H1 h1 a1 t1 => ⟨ws, δ1, a1, t1, h1⟩⟩) fun us s1 ⟨zs, H1, I1, rz, ws, δ1, a1, t1, h1⟩ => ⟨I1.kIn, ?_⟩) hpl
  rw [hks]
  cases e1 : allD ws with
  | none => simp only [e1] at h1
  | some ds =>
    simp only [e1] at h1
    exact run_fnk (us := []) (vs := []) F hr hb pass0 I1 .nil rz ⟨a1.env.tab, perm ds, _, hp H1 zs ds (allD_iss t1 e1), h1, fun w v H' hw hs hv => q _ _ _ _ hw (a1.trans (AR.stp a1.env hs)) ((hv.bare σ δ1).back a1.st.dom)⟩
end
end Ib
set_option Elab.async false
set_option linter.all false
set_option autoImplicit false
set_option maxRecDepth 100000
set_option maxHeartbeats 4000000
/-! IbX: own errors: their __init__ by super().__init__, raised, caught. -/
namespace Ib
open PySem PySem.Spec PyProof.Rows L2 TL PySem.W
variable [Tabl]
def iniScope : Scope := { kind := .function, names := [(("self" : String), .local), (("value" : String), .local), (("__class__" : String), .free), (("super" : String), .globalImplicit)], isGenerator := false, isCoroutine := false, more := [] }
def iniArgs (p1 p2 : Pos) : Arguments := { posonlyargs := [], args := [{ arg := "self", annotation := none, pos := p1 }, { arg := "value", annotation := none, pos := p2 }], vararg := none, kwonlyargs := [], kw_defaults := [], kwarg := none, defaults := [] }
def iniBody (tx : Str) (j : Nat) (p0 p1 p2 p3 p4 p5 q1 q2 q3 q4 : Pos) : List Stmt :=
  [.Expr (.Call (.Attribute (.Call (.Name "super" p0) [] [] p1) "__init__" p2) [.Constant (.str tx) j p3] [] p4) p5, .Assign [.Attribute (.Name "self" q1) "value" q2] (.Name "value" q3) q4]
/-- what the written part says of the class at C and of its __init__ at fI -/
structure ErrT (P : Program) (K : PySem.W.Frag) (C fI : Addr) (fd : FuncData) : Prop where
  ox : OexC K C
  fn : ∃ (oc : Value) (od : Option Addr) (doc pm kV : Value) (an : Option Addr) (ct : Value) (cda cc : Addr) (osl : Array (Option Value)) (qual tx : Str) (j : Nat) (a1 a2 p0 p1 p2 p3 p4 p5 q1 q2 q3 q4 : Pos),
    fd = ksFn "__init__" qual (iniArgs a1 a2) (iniBody tx j p0 p1 p2 p3 p4 p5 q1 q2 q3 q4) iniScope .none kV doc pm an (.ref cda) ct cc ∧ K.lookup fI = some ⟨oc, od, .func fd, osl⟩ ∧ codeIn K (.ref cda) qual = true ∧
    (∃ pl : PySem.Env → Sem Bool, ∀ env : PySem.Env, eval (.Call (.Attribute (.Call (.Name "super" p0) [] [] p1) "__init__" p2) [.Constant (.str tx) j p3] [] p4) env = (do
      let ov ← attributeBase (.Call (.Name "super" p0) [] [] p1) "__init__" env (eval (.Call (.Name "super" p0) [] [] p1) env)
      standAt p2.atName
      let (f, first) ← holding [ov] (getMethod ov "__init__" (pl env))
      callWith p4 f first (backTo p4 (starEach [.Constant (.str tx) j p3] env)) [])) ∧
    (∃ ccl cdd vs ccs file tf, K.lookup cda = some ⟨ccl, cdd, .fields vs, ccs⟩ ∧ vs[2]? = some (.str file tf) ∧ ((P.main.file : Str) == file) = true) ∧ ∃ cl cld csl, K.lookup cc = some ⟨cl, cld, .cell (some (.ref C)), csl⟩
  iC : findIn K (.ref C) "__init__" = some (some (.ref fI))
  tI : typeIn K (.ref fI) = some (.type "function")
  noV : findIn K (.ref C) "value" = some none
  sub : mroIn K C (.ref C) = some true
  sup : ks_superIn K C C "__init__" = some (some (.builtin "ValueError.__init__"))
  opq : nsIn K cStatics "thirdparty.any" = some none
  sVE : subIn K (.ref C) (.type "ValueError") = some true
/-- the __init__'s context -/
def iniCx (P : Program) (w : World) (K : PySem.W.Frag) (mg : Str → Option Value) (base : Heap) (A : Around) (outer : List PySem.Env) (s : Shared) (H : Hp) (qual : Str) (fI cda cc : Addr) : Cx where
  prog := P
  w := w
  K := K
  mg := mg
  base := base
  A := A.deeper (ksEnv qual iniScope s.heap.objs.size fI (.ref cda) cc)
  N := ["self", "value"]
  s_0 := s
  H_0 := H
  env := ksEnv qual iniScope s.heap.objs.size fI (.ref cda) cc
  outer := outer
  stack := ksEnv qual iniScope s.heap.objs.size fI (.ref cda) cc :: outer
  ex := []
  fn := fun _ => false
  calm := true
  pn := []
  xe := fun _ _ => False
section
variable {P : Program} {w : World} {K : PySem.W.Frag} {mg : Str → Option Value} {base : Heap}
theorem ini_start {A : Around} {outer : List PySem.Env} {s : Shared} {H : Hp} {qual : Str} {fI cda cc : Addr} {v1 v2 : V} {u1 u2 : Value} {h₁ : Heap} {tk : Nat} (e0 : Env0 P w K mg base A outer s H) (hd : A.handled = none) (hcell : ∃ cl cld csl z, K.lookup cc = some ⟨cl, cld, .cell (some z), csl⟩)
    (hns : h₁.Ns s.heap.objs.size fun y => ([(("self" : Str), u1), (("value" : Str), u2)] : List (Str × Value)).reverse.lookup y) (r1 : RelV v1 u1) (r2 : RelV v2 u2) (kp : ∀ b o, s.heap.get? b = some o → h₁.get? b = some o) :
    L2.Inv (iniCx P w K mg base A outer s H qual fI cda cc) [] [some v1, some v2] H { s with heap := h₁, toks := tk } := by
  obtain ⟨cl, cld, csl, z, hc⟩ := hcell
  have hb := e0.mod.kin _ _ hc
  obtain ⟨hs, hn⟩ := e0.bs _ _ hb
  have cells : ∀ {y : Str} {c : Addr}, (iniCx P w K mg base A outer s H qual fI cda cc).env.cells.lookup y = some c → y = "__class__" ∧ c = cc := fun {y c} e => by
    have e : List.lookup y [(("__class__" : Str), cc)] = some c := e
    simp only [List.lookup] at e
    split at e
    · rename_i q
      cases e
      exact ⟨beq_iff_eq.mp q, rfl⟩
    · cases e
  have noA : ∀ b : Addr, b ∉ (iniCx P w K mg base A outer s H qual fI cda cc).ex := fun b z => absurd (show b ∈ ([] : List Addr) from z) (by simp)
  refine ⟨⟨e0.mod, rfl, rfl, rfl, Nat.le_refl _, fun y z c e1 e2 => by rw [(cells e1).1, (cells e2).1], fun y hy => ?_, fun y c z _ => ?_, fun _ => hd, Around.frames_deeper e0.frames, .inr ⟨rfl, rfl⟩, fun b z => absurd z (noA b), e0.bs, e0.bsz, fun b _ _ => noA b,
      fun b z => absurd z (noA b), e0.funs, e0.frf⟩,
    rfl, e0.bare, Un.kept kp, ⟨_, hns, fun i y v a1 a2 a3 => ?_⟩, fun y c e => ?_, e0.hok.fresh (Nat.le_refl _), fun y c e => by rw [(cells e).2]; exact hn, fun q hq => absurd (show q ∈ ([] : List (Addr × Obj)) ++ [] from hq) (by simp), e0.hok.kept kp, rfl⟩
  · have hy : iniScope.names.lookup y = some .cell ∨ iniScope.names.lookup y = some .free := hy
    have : y = "__class__" := by
      unfold iniScope at hy
      simp only [List.lookup] at hy
      by_cases h1 : y = "self"
      · subst h1; simp at hy
      · by_cases h2 : y = "value"
        · subst h2; revert hy; decide +kernel
        · by_cases h3 : y = "__class__"
          · exact h3
          · have e1 : (y == ("self" : Str)) = false := by simpa using h1
            have e2 : (y == ("value" : Str)) = false := by simpa using h2
            have e3 : (y == ("__class__" : Str)) = false := by simpa using h3
            simp only [e1, e2, e3] at hy
            cases e4 : (y == ("super" : Str)) <;> simp [e4] at hy
    subst this
    exact ⟨cc, by show List.lookup _ [(("__class__" : Str), cc)] = _; simp [List.lookup]⟩
  · have z : false = true := z
    cases z
  · match i, a1, a2 with
    | 0, a1, a2 =>
      have a1 : ("self" : Str) = y := by simpa [iniCx] using a1
      have a2 : v1 = v := by simpa using a2
      subst a1 a2
      exact ⟨u1, r1, .inl ⟨rfl, by first | rfl | with_unfolding_all rfl | kernel_rfl⟩⟩
    | 1, a1, a2 =>
      have a1 : ("value" : Str) = y := by simpa [iniCx] using a1
      have a2 : v2 = v := by simpa using a2
      subst a1 a2
      exact ⟨u2, r2, .inl ⟨rfl, by first | rfl | with_unfolding_all rfl | kernel_rfl⟩⟩
    | n + 2, a1, a2 => simp at a2
  · rw [(cells e).2]
    exact ⟨some z, _, kp _ _ hs, rfl⟩
/-- what __init__ makes of a new error: its field -/
def spIni (K : PySem.W.Frag) (C : Addr) : Sp := fun vs H Q _ => ∃ a y, vs = [.ref a, y] ∧ H a = some (exo a C none) ∧ ∀ dx, H dx = none → dx ≠ a → Q .non (upd (upd H dx (exd dx [(("value" : Str), y)])) a (exo a C (some dx)))
/-- super().__init__(..) -/
theorem super_init {X : Cx} {pins : List (Addr × Obj)} {σ : St} {H : Hp} {s : Shared} {A : Around} {u a C : Addr} {us : List Value} {Q : Value → Shared → Prop} {E : Value → Shared → Prop} (T : OexC X.K C) (I : L2.Inv X pins σ H s) (e : H a = some (exo a C none)) (hu : s.heap.get? u = some (kxs_mw "ValueError.__init__" a)) (hl : us.length ≤ sizeLine) (h : ∀ s', L2.Inv X pins σ H s' → Q .none s') :
    wpAny (model X.prog X.w) A (call (.ref u) us) Q E s := by
  obtain ⟨nm, q, N, bs, bm, sn, sub, ab, col, dd, k0, k1, k2, k3, k5, hC, hbm⟩ := T.cls
  obtain ⟨t1, ho⟩ := exo_at I.hok e
  obtain ⟨hp, g, d, t, os⟩ := s
  have J : ∀ h', (∀ b o, b ≠ a → hp.get? b = some o → h'.get? b = some o) → (∃ t2 : Addr, h'.get? a = some ({ cls := .ref C, dict := none, data := .fields #[.ref t2, .none, .none, .none, .bool false, .none] } : Obj)) → L2.Inv X pins σ H ⟨h', g, d, t, os⟩ := fun h' k ⟨t2, hx⟩ => by
    have J := I.write (t' := t) (x := a) (e := a) (o := exo a C none) (by rw [e]; exact True.intro) (.inl rfl) k ⟨_, hx⟩ (exo_ok hx)
    have eu : upd H a (exo a C none) = H := by
      funext b
      by_cases hb : b = a
      · rw [hb, upd_same, e]
      · rw [upd_ne hb]
    rw [eu] at J
    exact J
  refine wpAny_call (codeAny_of_tree ?_)
  show wpAny _ A.in1 (callAny (.ref u) ⟨us, []⟩) _ _ _
  simp only [callAny]
  refine wpAny_bind (wpAny_load hu ?_)
  simp only [kxs_mw, show (Value.type "method-wrapper" == Value.type "method" || Value.type "method-wrapper" == Value.type "builtin_function_or_method" || Value.type "method-wrapper" == Value.type "method-wrapper") = true by decide, if_true]
  refine KFB.if_so (by decide) ?_
  refine wpAny_bind (check_bound_init F.excBase_ValueError.toExcCallFacts (I.kIn _ _ hC) ho rfl ?_)
  refine wpAny_bind (wpAny_pure (wpAny_pure ?_))
  refine ⟨plainId_quiet F.excBase_ValueError.init.plain _, codeAny_builtin F.excBase_ValueError.initEntry ?_⟩
  refine exc_init_tree (cls := .ref C) (t0 := t1) (dv := none) (c2 := .none) (c3 := .none) (b4 := .bool false) ho hl fun h' k hx _ => ?_
  exact h _ (J h' k ⟨_, hx⟩)
theorem ini_ok {C fI : Addr} {fd : FuncData} {k : Nat} (T : ErrT P K C fI fd) (hsu : mg "super" = none) (htop : (P.main.scope.names.lookup ("super" : Str)).isSome = false) : FnOk P w K mg base (L2.CX P w) (k + 1) fI fd ["self", "value"] (spIni K C) := by
  obtain ⟨oc, od, doc, pm, kV, an, ct, cda, cc, osl, qual, tx, j, a1, a2, p0, p1, p2, p3, p4, p5, q1, q2, q3, q4, rfl, lk, hcd, ⟨pl, hev⟩, ⟨ccl, cdd, cvs, ccs, file, tf, hcode, hvs, hfile⟩, cl, cld, csl, hcell⟩ := T.fn
  refine ⟨fun vs H Q E h => by obtain ⟨a, y, rfl, _⟩ := h; rfl, fun A outer s H args us vs Q E hr e0 hb rv h => ?_⟩
  obtain ⟨a, y, rfl, ea, q⟩ := h
  obtain ⟨u0, rfl⟩ : ∃ u0, us = [.ref a, u0] := by
    cases rv with
    | cons r1 t => cases t with
      | cons r2 t => cases t; cases r1; exact ⟨_, rfl⟩
  have r2 : RelV y u0 := by cases rv with | cons r1 t => cases t with | cons r2 t => exact r2
  have KX : K.In s.heap := e0.mod.kin.keeps fun b o e => (e0.bs b o e).1
  have lim : s.heap.NoLimit := e0.mod.nolimit.keeps fun b o e => (e0.bs b o e).1
  refine ks_codeAny_call_defAt hr.depth (KX _ _ lk) rfl lim (codeRec_of KX hcd) rfl hb (by show ∀ x ∈ iniScope.names, x.2 ≠ .cell; decide) (fun x hx => by
    have : x = (("self" : Str), Value.ref a) ∨ x = (("value" : Str), u0) := by simpa using hx
    rcases this with rfl | rfl
    · show iniScope.names.lookup ("self" : Str) = some .local; decide
    · show iniScope.names.lookup ("value" : Str) = some .local; decide) (fun h₁ hns kp => ?_) rfl rfl rfl
  have hns : h₁.Ns s.heap.objs.size fun y => ([(("self" : Str), .ref a), (("value" : Str), u0)] : List (Str × Value)).reverse.lookup y := hns
  have I0 : L2.Inv (iniCx P w K mg base A outer s H qual fI cda cc) [] [some (.ref a), some y] H { s with heap := h₁, toks := s.toks + 2 } := ini_start e0 hr.hd ⟨_, _, _, _, hcell⟩ hns rfl r2 kp
  show PySem.wpAt _ _ (.func _ (ksEnv qual iniScope s.heap.objs.size fI (.ref cda) cc)) (execs _ (ksEnv qual iniScope s.heap.objs.size fI (.ref cda) cc)) _ _ { s with heap := h₁, toks := s.toks + 2 }
  generalize hs1 : ({ s with heap := h₁, toks := s.toks + 2 } : Shared) = s1 at I0 ⊢
  have hns1 : s1.heap.Ns s.heap.objs.size fun y => ([(("self" : Str), .ref a), (("value" : Str), u0)] : List (Str × Value)).reverse.lookup y := by rw [← hs1]; exact hns
  obtain ⟨cd, hcl⟩ : ∃ cd, clsIn K C = some cd := by
    have := T.sub
    unfold mroIn at this
    obtain ⟨cd, e, _⟩ := Option.bind_eq_some_iff.mp this
    exact ⟨cd, e⟩
  have X1 : K.In s1.heap := I0.kIn
  obtain ⟨oD, hD1, hD2⟩ : ∃ oD, s1.heap.get? C = some oD ∧ oD.data = .cls cd := by
    have z := hcl
    unfold clsIn at z
    split at z
    · rename_i c d cd' sl ho
      cases z
      exact ⟨_, X1 _ _ ho, rfl⟩
    · cases z
  obtain ⟨t1, hx1⟩ := exo_at I0.hok ea
  obtain ⟨mb, hb1, hb2⟩ := I0.mod.blt
  refine ks_wpAt_execs_cons (ks_wpAt_Expr_any (ks_wpAt_MethodCall ?_ (hev _)))
  refine ks_wpAt_super_base (env := ksEnv qual iniScope s.heap.objs.size fI (.ref cda) cc) (show iniScope.names.lookup ("super" : Str) = some .globalImplicit by decide) (show iniScope.names.lookup ("__class__" : Str) = some .free by decide) (by decide) rfl (X1 _ _ lk) rfl rfl rfl (X1 _ _ hcode) rfl hvs hfile htop ?_
  refine ks_loadName_global rfl (show iniScope.names.lookup ("super" : Str) = some .globalImplicit by decide) (Calls.loadGlobal_builtin (env := ksEnv qual iniScope s.heap.objs.size fI (.ref cda) cc) (I0.mod.glob.keeps I0.bk) hsu (hb1.keeps I0.bk) ((hb2 _ (by decide +kernel)).trans (show bootBuiltins "super" = some (.type "super") by decide +kernel)) ⟨rfl, ?_⟩)
  refine wpAny_loadName_free rfl (show iniScope.names.lookup ("__class__" : Str) = some .free by decide) rfl ⟨_, X1 _ _ hcell, rfl⟩ ?_
  refine wpAny_loadName_local rfl (show iniScope.names.lookup ("self" : Str) = some .local by decide) hns1 (by first | rfl | with_unfolding_all rfl | kernel_rfl) ?_
  obtain ⟨hp, g, dr, tk, os⟩ := s1
  refine ks_wpAny_isType_cls hD1 hD2 ⟨rfl, ?_⟩
  refine ks_wpAny_call_super hD1 hD2 hx1 rfl (fun c e => by cases e) (looks_mroIn X1 T.sub) (fun h2 e2 k2 => ?_)
  have J2 := I0.kept (t' := tk) k2
  have X2 : K.In h2 := J2.kIn
  have inst : InstAt h2 a _ C none := ⟨k2 _ _ hx1, rfl, rfl, trivial⟩
  have sup := T.sup
  unfold ks_superIn at sup
  rw [hcl] at sup
  refine kxs_getMethod kxs_ValueError e2 (looks_opaque X2 T.opq) (l₀ := cd.mro) (fun A Q E s k q => wpAny_bind ((looks_clsIn X2 hcl) A _ E s k (wpAny_pure q))) rfl X2 sup (inst.type.andThen (looks_subIn X2 T.sVE)) (ks_ne X2 inst hcl) (by decide) ?_
  have hu : (h2.push (kxs_mw "ValueError.__init__" a)).get? h2.objs.size = some (kxs_mw "ValueError.__init__" a) := Heap.get?_push_size _ rfl
  have J3 := J2.kept (t' := tk + 1) (h' := h2.push (kxs_mw "ValueError.__init__" a)) fun b o z => Heap.get?_push_of_some _ z
  have fo := J2.fpOk (H' := H) (Nat.le_refl _) (J2.hok.fresh (Nat.le_refl _))
  generalize h2.push (kxs_mw "ValueError.__init__" a) = h3 at hu J3 ⊢
  generalize h2.objs.size = u at hu fo ⊢
  have J4 := J3.pinned (fp := [u]) (fun b hb => by rw [List.mem_singleton.mp hb]; exact fo) (fun b hb => by rw [List.mem_singleton.mp hb]; exact ⟨_, hu, fun v z => nomatch z⟩)
  refine kxs_callWith (i := "ValueError.__init__") (x := a) rfl (Calls.evalArgs_plain ?_)
  refine thn ((pa_cons (X := iniCx P w K mg base A outer s H qual fI cda cc) (e := .Constant (.str tx) j p3) (es := []) pe_str pa_nil).run p4 _ _ _ H (fun vs H' => H' = H ∧ vs.length = 1) J4 ⟨rfl, rfl⟩) fun us s4 ⟨vs, H4, I4, r4, e4, l4⟩ => ?_
  subst e4
  have hu4 : s4.heap.get? u = some (kxs_mw "ValueError.__init__" a) := (I4.pin (u, kxs_mw "ValueError.__init__" a) (List.mem_append_right _ (List.mem_append_right _ (mem_pinsAt (List.mem_singleton.mpr rfl) hu)))).1
  refine ⟨hu4, super_init (X := iniCx P w K mg base A outer s H4 qual fI cda cc) T.ox I4 ea hu4 (by have := r4.length; rw [sizeLine_eq]; simp; omega) fun s5 I5 => ?_⟩
  refine wpAt_of_wpAny (wpAny_mono ((pss_one (ps_ost (X := iniCx P w K mg base A outer s H4 qual fI cda cc) (pv 0) (pv 1))).run _ s5 _ H4 { nx := fun _ H' => Q .non H', rt := fun _ _ => False } I5 ?_) (fun fl s6 hs => ?_) fun e s6 z => z.elim)
  · exact ⟨y, rfl, .ref a, rfl, a, C, rfl, T.ox, T.noV, .inl ⟨ea, q⟩⟩
  · cases fl with
    | next =>
      obtain ⟨σ', H', J', q'⟩ := hs
      exact ⟨.non, H', J'.os, J'.bare, J'.base, J'.hok, rfl, q'⟩
    | ret u =>
      obtain ⟨_, _, _, _, _, z⟩ := hs
      exact z.elim
    | brk =>
      obtain ⟨_, _, _, z⟩ := hs
      exact z.elim
    | cont =>
      obtain ⟨_, _, _, z⟩ := hs
      exact z.elim
end
end Ib
set_option Elab.async false
set_option linter.all false
set_option autoImplicit false
set_option maxRecDepth 100000
set_option maxHeartbeats 4000000
/-! IbY: several clauses «except C as n»; the error held asked: its class. -/
namespace PySem.W
open PySem PySem.Spec PySem.Calls PyProof.Rows
section
variable {prog : Program} {w : World} {A : Around} {E : Value → Shared → Prop} {s : Shared} {K : Frag} {x D : Addr} {ox : Obj} {od : Option Obj}
theorem ib_findObj {C : Addr} {name : Str} {a g : Value} (hc : (clsIn K C).isSome = true) (ha : findIn K (.ref C) name = some (some a)) (hg : specialIn K a "__get__" = some (some g)) (ht : takesIn K a = some true) : findObj K C od name = some (.bind g a) := by
  obtain ⟨cd, hc⟩ := Option.isSome_iff_exists.mp hc
  unfold findObj
  rw [hc, Option.bind_some, ha, Option.bind_some]
  simp [hg, ht]
/-- e.__class__ of an error that may have its dict -/
theorem ib_class {Q : Option Value → Shared → Prop} (h1 : findIn K (.ref D) "__getattribute__" = some (some (.builtin "BaseException.__getattribute__"))) (h2 : findIn K (.ref D) "__getattr__" = some none) (h3 : subIn K (.ref D) (.type "BaseException") = some true)
    (h4 : hasDictIn K D = true) (h5 : findIn K (.ref D) "__class__" = some (some (.builtin "object.__class__"))) (h6 : specialIn K (.builtin "object.__class__") "__get__" = some (some (.builtin "getset_descriptor.__get__"))) (h7 : takesIn K (.builtin "object.__class__") = some true)
    (h8 : mroIn K D (.type "object") = some true) (X : K.In s.heap) (I : InstAt s.heap x ox D od) (h : Q (some (.ref D)) { s with toks := s.toks + 1 }) : wpAny (model prog w) A (getAttr? (.ref x) "__class__") Q E s := by
  have fo : findObj K D od "__class__" = some (.bind (.builtin "getset_descriptor.__get__") (.builtin "object.__class__")) := ib_findObj (by obtain ⟨cd, hc, _⟩ := any_some h4; rw [hc]; rfl) h5 h6 h7
  obtain ⟨hp, g, d, t, os⟩ := s
  have T0 := I.type (M := model prog w)
  have T1 := looks_findIn (M := model prog w) X h1
  have T2 := looks_findIn (M := model prog w) X h2
  have T3 := looks_find (M := model prog w) X I fo
  have isB : Looks (model prog w) hp (isInstance (.ref x) (.type "BaseException")) true := T0.andThen (looks_subIn X h3)
  have n2 : (Value.builtin "BaseException.__getattribute__" == Value.builtin "object.__getattribute__") = false := by decide +kernel
  have n1 : (onTheHeap (Value.ref D) && Value.builtin "BaseException.__getattribute__" == Value.builtin "object.__getattribute__") = false := by rw [n2]; rfl
  unfold getAttr? getAttrBy? getAttrBy
  refine wpAny_bind (wpAny_mkText (wpAny_bind (wpAny_attempt (wpAny_holding (wpAny_bind (T0.at (wpAny_bind (T1.at ?_))))))))
  show wpAny _ _ (if (onTheHeap (Value.ref D) && Value.builtin "BaseException.__getattribute__" == Value.builtin "object.__getattribute__") = true then _ else _) _ _ _
  rw [n1, if_neg Bool.false_ne_true]
  unfold getAttrByItsOwn hookBefore
  refine wpAny_bind ?_
  rw [if_pos (show onTheHeap (Value.ref D) = true from rfl)]
  refine T2.at ?_
  refine wpAny_bind (wpAny_attempt (wpAny_holding ?_))
  unfold callGetattribute
  rw [show (false && onTheHeap (Value.builtin "BaseException.__getattribute__")) = false from rfl, if_neg Bool.false_ne_true]
  unfold boundAndCalled
  rw [PySem.F.excAttr_ValueError.ga.bind (.ref x)]
  refine wpAny_bind (wpAny_pure ?_)
  show wpAny _ _ (call (.builtin "BaseException.__getattribute__") [.ref x, .str "__class__" t]) _ _ _
  refine wpAny_call (codeAny_call_builtin PySem.F.excAttr_ValueError.ga.plain PySem.F.entry_bexc_ga ?_)
  refine @check_slot (model prog w) _ _ ⟨hp, g, d, t + 1, os⟩ "BaseException.__getattribute__" "BaseException" "__getattribute__" (.ref x) [.str "__class__" t] [] _ (by decide +kernel) (by decide +kernel) isB (PySem.F.args_bexc_ga (.ref x) (.str "__class__" t)) ?_
  unfold Builtin.«object.__getattribute__»
  refine wpAny_bind (wpAny_of_eq (a := ((Value.ref x : Value), [Value.str "__class__" t])) (by first | rfl | (simp only [slotArgs]; rfl)) ?_)
  refine wpAny_bind (wpAny_pure (wpAny_bind (T0.at (wpAny_bind (T3.at ?_)))))
  show wpAny _ _ (holding [Value.builtin "object.__class__"] (call (.builtin "getset_descriptor.__get__") [.builtin "object.__class__", .ref x, .ref D]) >>= ret) _ _ _
  refine wpAny_bind (wpAny_holding (wpAny_call (class_get (s := ⟨hp, g, d, t + 1, os⟩) (ox := ox) (od := od) X I h8 ?_)))
  refine wpAny_pure ?_
  show wpAny _ _ (handedOut (.ref D)) _ _ _
  rw [handedOut_of (v := .ref D) rfl]
  first
    | exact wpAny_pure (wpAny_pure h)
    | exact wpAny_pure h
    | exact wpAny_pure (wpAny_bind (wpAny_pure (wpAny_pure h)))
theorem ib_kit (h1 : findIn K (.ref D) "__getattribute__" = some (some (.builtin "BaseException.__getattribute__"))) (h2 : findIn K (.ref D) "__getattr__" = some none) (h3 : subIn K (.ref D) (.type "BaseException") = some true) (h4 : hasDictIn K D = true) (h5 : findIn K (.ref D) "__class__" = some (some (.builtin "object.__class__")))
    (h6 : specialIn K (.builtin "object.__class__") "__get__" = some (some (.builtin "getset_descriptor.__get__"))) (h7 : takesIn K (.builtin "object.__class__") = some true) (h8 : mroIn K D (.type "object") = some true) :
    KitX K (.ref x) (.ref D) (fun h => InstAt h x ox D od) where
  ty := fun _ _ _ I => I.type
  it := fun _ _ X _ => by
    obtain ⟨cdD, hcD, _⟩ := any_some h4
    unfold clsIn at hcD
    split at hcD
    · rename_i c' d' cd' sl' ho
      intro A' Q' E' s' k q
      unfold isType loadHead
      exact wpAny_bind (wpAny_loadPart (k _ _ (X _ _ ho)) (wpAny_pure q))
    · cases hcD
  ne := fun h tp dd its n sl X htp => by
    obtain ⟨cdD, hcD, _⟩ := any_some h4
    refine Bool.eq_false_iff.mpr fun q => ?_
    have e : D = tp := Value.ref.inj (beq_iff_eq.mp q)
    subst e
    unfold clsIn at hcD
    split at hcD
    · rename_i c' d' cd' sl' ho
      have z := (X _ _ ho).symm.trans htp
      cases z
    · cases hcD
  ca := fun X I k => ib_class h1 h2 h3 h4 h5 h6 h7 h8 X I k
end
end PySem.W
namespace Ib
open PySem PySem.Spec PyProof.Rows L2 TL
variable [Tabl]
/-- isinstance(e, c), e the error that the suite holds, its dict at dd -/
theorem call_isD {X : Cx} {a D dd : Addr} {oe : Obj} {pn : List (Addr × Obj)} (C : ExcC X.K D) (hz : Zc (.ref D) (some dd) oe) (hf : ∃ vs, oe.data = .fields vs) : CallR (X.suite a ((a, oe) :: pn)) (.builtin "isinstance") (fun xs H Q => ∃ (c : Addr) (b : Bool) (fs : List (Str × V)), xs = [.ref a, .ref c] ∧ H dd = some (.xd fs) ∧ PySem.W.kitOne X.K (.ref D) (.ref c) = some b ∧ Q (.bl b) H) := by
  intro pins s σ H xs us Q I r h
  obtain ⟨c, b, fs, rfl, hd, e, q⟩ := h
  obtain ⟨u1, u2, rfl, r1, r2⟩ := vals2 r
  cases r1
  cases r2
  obtain ⟨hget, _⟩ := I.pin (a, oe) (List.mem_append.mpr (.inl List.mem_cons_self))
  obtain ⟨vs, hv⟩ := hf
  obtain ⟨mA, ⟨od, es, ep, ho, hr⟩, _⟩ := (show ObjOk X.prog X.w H s.heap dd (.xd fs) from I.hok dd _ hd)
  have J : PySem.W.InstAt s.heap a oe D (some od) := by
    obtain ⟨oc, oda, odt, osl⟩ := oe
    obtain ⟨h1, h2⟩ := hz
    dsimp only at h1 h2 hv
    subst h1 h2 hv
    exact ⟨hget, rfl, rfl, ho⟩
  exact PySem.W.kia_one (PySem.W.ib_kit C.hg C.hk C.hs C.hd C.ha C.hn C.ht C.hm) I.kIn J e (fun z => nomatch z) fun tk => ⟨.bl b, H, I.kept (t' := tk) fun _ _ z => z, rfl, q⟩

/-! ### several clauses, each with the name n at slot i -/
def wManyAs (K : PySem.W.Frag) (i : Nat) (Wout : WX) (D : Ends) : List (Value × (Addr → Value → Option Addr → TS)) → WX
  | [] => Wout
  | (c, ts) :: r => fun cls d σ H => ∃ b, PySem.W.exmOne K cls c = some b ∧ (b = true → ∀ a, H a = none → ts a cls d { nx := fun σ' H' => D.nx (σ'.set i none) H', rt := D.rt, bk := fun σ' H' => D.bk (σ'.set i none) H', ct := fun σ' H' => D.ct (σ'.set i none) H' } (σ.set i (some (.ref a))) H) ∧ (b = false → wManyAs K i Wout D r cls d σ H)
inductive HdsAs (X : Cx) (n : Str) : List ExceptHandler → List (Value × (Addr → Value → Option Addr → TS)) → Prop
  | nil : HdsAs X n [] []
  | cons {x : Str} {c : Value} {ts : Addr → Value → Option Addr → TS} {b₀ : Stmt} {suite : List Stmt} {np pos' : Pos} {hds : List ExceptHandler} {l : List (Value × (Addr → Value → Option Addr → TS))} (hc : Names X x c)
      (hsu : ∀ (a : Addr) (oe : Obj) (cls : Value) (d : Option Addr) (pn : List (Addr × Obj)), Zc cls d oe → (∃ vs, oe.data = .fields vs) → PSs (X.suite a ((a, oe) :: pn)) (b₀ :: suite) (ts a cls d)) (r : HdsAs X n hds l) :
      HdsAs X n (.ExceptHandler (some (.Name x np)) (some n) (b₀ :: suite) pos' :: hds) ((c, ts) :: l)
section
variable {X : Cx} {n : Str} {i : Nat} {body : List Stmt} {h₀ : ExceptHandler} {hds : List ExceptHandler} {l : List (Value × (Addr → Value → Option Addr → TS))} {pos : Pos} {tb : WX → TS} {Wout : WX}
theorem ps_try_manyAs (hs : X.stack = X.env :: X.outer) (hf : X.env.frame = some X.env.locals) (hN : X.N.Nodup) (hi : X.N[i]? = some n) (hln : X.env.kindOf n = some .local) (tk : Takes X Wout)
    (hb : ∀ (W : WX) (pn : List (Addr × Obj)) (xe : Value → Shared → Prop), Takes (X.tr pn xe) W → PassesOwn (model X.prog X.w) X.A X.env xe → PSs (X.tr pn xe) body (tb W))
    (hh : HdsAs X n (h₀ :: hds) l) : PS X (.Try body (h₀ :: hds) [] [] pos) (fun D σ H => tb (wManyAs X.K i Wout D l) D σ H) := by
  refine ⟨fun pins s σ H D I h => ?_⟩
  have ok := I.ok
  have frames : X.A.frames = some (X.env :: X.outer) := by rw [ok.frames, hs]
  have loc : Loc X.env.scope n := .inl hln
  refine wpAny_Try_except ?_
  refine wpAny_mono ((hb (wManyAs X.K i Wout D l) (X.pn ++ pins) (fun e s₁ => wpAny (model X.prog X.w) X.A (noteFrame e X.env) (fun _ s₂ => wpAny (model X.prog X.w) X.A (setFlight e none) (fun _ s₃ =>
    wpAny (model X.prog X.w) X.A (handleBy e X.env (h₀ :: hds)) (SP X pins D) X.xe s₃) X.xe s₂) X.xe s₁) (fun u s' xx => ?_) PassesOwn.looking).run [] s σ H D (I.toTry _) h) (fun f s1 hsp => ?_) (fun e s1 he => he)
  · obtain ⟨a, B, sI, pins', σ', H', cls, d, rfl, J', nb, up, sky, na, os, ag, w⟩ := xx
    have J : L2.Inv X pins σ' H' sI := J'.ofTry ok
    have sky2 : Sky B (X.env :: X.outer) a (Zc cls d) X.env.locals s'.heap := by rw [← hs]; exact sky
    show wpAny (model X.prog X.w) X.A (noteFrame (.ref a) X.env) _ _ _
    refine Sky.land Zc.steady frames hf sky2 fun h3 fl3 up3 => ?_
    have J3 : L2.Inv X pins σ' H' { s' with heap := h3 } := J.landed nb fl3.1 (up.trans up3) os ag
    obtain ⟨oe3, vs3, he3, hz3, hd3⟩ := fl3.there
    have nfr : a ∉ frs (X.env :: X.outer) := fun hm => by
      obtain ⟨_, o', e', hnf⟩ := fl3.2.2.1.mem hm
      rw [he3] at e'; cases e'
      exact hnf _ hd3
    have nL : a ≠ X.env.locals := fun z => nfr (List.mem_filterMap.mpr ⟨X.env, List.mem_cons_self, by rw [hf, z]⟩)
    have nF : a ∉ X.fs := fun hm => by
      obtain ⟨e, he, q⟩ := List.mem_filterMap.mp hm
      exact nfr (List.mem_filterMap.mpr ⟨e, List.mem_cons_of_mem _ he, q⟩)
    have S3 := J3.suite he3 hd3 na nL nF
    have go : ∀ {hds' : List ExceptHandler} {l' : List (Value × (Addr → Value → Option Addr → TS))}, HdsAs X n hds' l' → wManyAs X.K i Wout D l' cls d σ' H' →
        wpAny (model X.prog X.w) X.A (handleBy (.ref a) X.env hds') (SP X pins D) X.xe { s' with heap := h3 } := by
      intro hds' l' hk
      induction hk with
      | nil =>
        intro w
        refine wpAny_handleBy_nil ?_
        obtain ⟨k1, k2, k3, oe, vs, T, oT, ts', he, hz, hd, h1, hr⟩ := id fl3
        unfold PySem.passOn
        refine wpAny_bind (wpAny_field he hd h1 ?_)
        rw [if_neg (show ¬ ((Value.ref T == Value.none) = true) from by simp)]
        have fin : wpAny (model X.prog X.w) X.A (setFlight (.ref a) X.env.frame) (fun _ s4 => wpAny (model X.prog X.w) X.A (throw (.ref a) : Sem Flow) (SP X pins D) X.xe s4) X.xe { s' with heap := h3 } := by
          rw [hf]
          refine HandSPX.setFlight_upZ fl3 fun h4 hh4 up4 => wpAny_throw (tk _ _ ?_)
          exact ⟨a, B, sI, pins, σ', H', cls, d, rfl, J, nb, (up.trans up3).trans up4, .inr (.inr (by rw [hs]; exact hh4)), na, os, ag, w⟩
        first
          | exact wpAny_bind (wpAny_pure (wpAny_bind fin))
          | exact wpAny_bind fin
      | @cons x c ts b₀ suite np pos' hds2 l2 hc hsu r ih =>
        intro w
        obtain ⟨b, hb1, hyes, hno⟩ := w
        refine wpAny_handleBy_cons (codeAny_handlers_test ?_) (by intro q; cases q)
        have LT : PySem.W.Looks (model X.prog X.w) h3 (typeOf (.ref a)) cls := fun A Q E s k q => wpAny_typeOf_ref (k _ _ he3) (by rw [hz3.1]; exact q)
        have LM := PySem.W.exm_one (M := model X.prog X.w) (J3.kIn) LT hb1
        have test : ∀ {Q : Value → Shared → Prop} {E : Value → Shared → Prop}, Q c { s' with heap := h3 } → wpAny (model X.prog X.w) (X.A.mark (some (.ref a))) (eval (.Name x np) X.env) Q E { s' with heap := h3 } := fun {Q E} q => by
          obtain ⟨hg, hdbg, hm | ⟨hm, hv, hnn⟩⟩ := hc
          · exact ld_glob (X := X.suite a ((a, oe3) :: (X.pn ++ pins))) S3 hg hm q hdbg
          · exact ld_blt (X := X.suite a ((a, oe3) :: (X.pn ++ pins))) S3 hg hm hv q hnn hdbg
        refine test (LM.here ?_)
        cases b with
        | true =>
          refine codeAny_handlers_suite_as ?_
          refine HandSPX.lands_againZ fl3 fun h4 fl4 up4 => ?_
          have J4 : L2.Inv X pins σ' H' { s' with heap := h4 } := J.landed nb fl4.1 ((up.trans up3).trans up4) os ag
          obtain ⟨oe4, vs4, he4, hz4, hd4⟩ := fl4.there
          have S4 := J4.suite he4 hd4 na nL nF
          refine store_ok (X := X.suite a ((a, oe4) :: (X.pn ++ pins))) (v := .ref a) S4 hN hi loc rfl (fun s5 S5 => ?_) (.inr hln)
          refine wpAny_mono ((hsu a oe4 cls d (X.pn ++ pins) hz4 ⟨_, hd4⟩).run [] s5 _ H' _ S5 (hyes rfl a na)) (fun f s6 hsp => ?_) (fun _ _ z => False.elim z)
          have ends : ∀ {σ6 : St} {H6 : Hp} {Q : Shared → Prop}, L2.Inv (X.suite a ((a, oe4) :: (X.pn ++ pins))) [] σ6 H6 s6 → (∀ s7, L2.Inv X pins (σ6.set i none) H6 s7 → Q s7) →
              wpAny (model X.prog X.w) X.A (do bindName X.env n .none; unbindBehindTheSuite X.env n pos') (fun _ s7 => Q s7) X.xe s6 := fun {σ6 H6 Q} S6 hq => gone_ok (S6.unsuite ok) hN hi hln hq
          cases f with
          | next =>
            obtain ⟨σ6, H6, S6, q6⟩ := hsp
            exact ends S6 fun s7 J7 => ⟨_, _, J7, q6⟩
          | brk =>
            obtain ⟨σ6, H6, S6, q6⟩ := hsp
            exact ends S6 fun s7 J7 => ⟨_, _, J7, q6⟩
          | cont =>
            obtain ⟨σ6, H6, S6, q6⟩ := hsp
            exact ends S6 fun s7 J7 => ⟨_, _, J7, q6⟩
          | ret u =>
            obtain ⟨v6, σ6, H6, S6, r6, q6⟩ := hsp
            exact ends S6 fun s7 J7 => ⟨_, _, _, J7, r6, q6⟩
        | false =>
          show wpAny _ X.A (handleBy (.ref a) X.env hds2) _ _ _
          exact ih (hno rfl)
    exact go hh w
  · cases f with
    | next =>
      obtain ⟨σ', H', J', q⟩ := hsp
      exact wpAny_execs_nil ⟨σ', H', J'.ofTry ok, q⟩
    | brk =>
      obtain ⟨σ', H', J', q⟩ := hsp
      exact ⟨σ', H', J'.ofTry ok, q⟩
    | cont =>
      obtain ⟨σ', H', J', q⟩ := hsp
      exact ⟨σ', H', J'.ofTry ok, q⟩
    | ret u =>
      obtain ⟨v, σ', H', J', r, q⟩ := hsp
      exact ⟨v, σ', H', J'.ofTry ok, r, q⟩
end
end Ib
set_option Elab.async false
set_option linter.all false
set_option autoImplicit false
set_option maxRecDepth 100000
set_option maxHeartbeats 4000000
/-! IbT: the text's facts (printed by gen.py), calls of its defs. -/
namespace Ib
open PySem PySem.Spec PyProof.Rows L2 TL
variable [Tabl]
/-- a def of the text stands behind its name -/
def Df (K : PySem.W.Frag) (mg : Str → Option Value) (x : Str) (st : Stmt) : Prop := ∃ f fd, Fun K x x st f fd ∧ mg x = some (.ref f)
/-- a def keeps its promise -/
def Ok (P : Program) (w : World) (K : PySem.W.Frag) (mg : Str → Option Value) (base : Heap) (k : Nat) (x : Str) (ps : List Str) (sp : Sp) : Prop :=
  ∃ f fd, FnOk P w K mg base CX0 k f fd ps sp ∧ mg x = some (.ref f) ∧ PySem.W.keepIn K (.ref f) = true ∧ L2.Binds K fd ps []
theorem units65 {k : Nat} {A : Around} (r : Room k A) : A.units + 65 < cLine := by have := r.un; omega
section
variable {X : Cx} {k : Nat} {ps : List Str} {psp : PSp} {rsp : RSp} {x : Str} {p pos : Pos} {e : Expr} {es : List Expr} {da : DA}
theorem dcall (F : Ok X.prog X.w X.K X.mg X.base k x ps (spP X.K psp)) (hr : Room k X.A) (hg : Gl X x) (ha : PA X (e :: es) (upA X.K da))
    (hdb : (x == ("__debug__" : Str)) = false := by decide) (he : starEach (e :: es) X.env = (false, eval e X.env) :: starEach es X.env := by rfl) (hpl : (backTo pos (starEach es X.env)).any (·.1) = false := by rfl) :
    PE X (.Call (.Name x p) (e :: es) [] pos) (up X.K (dCallP psp da)) := by
  obtain ⟨f, fd, F, hm, hk, hb⟩ := F
  exact de_call F hr hg hm hk hb ha hdb he hpl
theorem dcallR (F : Ok X.prog X.w X.K X.mg X.base k x ps (spR X.K rsp)) (hr : Room k X.A) (hg : Gl X x) (ha : PA X (e :: es) (upA X.K da))
    (hdb : (x == ("__debug__" : Str)) = false := by decide) (he : starEach (e :: es) X.env = (false, eval e X.env) :: starEach es X.env := by rfl) (hpl : (backTo pos (starEach es X.env)).any (·.1) = false := by rfl) :
    PE X (.Call (.Name x p) (e :: es) [] pos) (up X.K (dCallR rsp da)) := by
  obtain ⟨f, fd, F, hm, hk, hb⟩ := F
  exact de_callR F hr hg hm hk hb ha hdb he hpl
theorem de_gint {i : Int} (hg : Gl X x) (h : ∃ t, X.mg x = some (.int i t)) (hd : (x == ("__debug__" : Str)) = false := by decide) : PE X (.Name x pos) (up X.K (dC (.int i))) := by
  obtain ⟨t, h⟩ := h
  exact de_glob (v := .int i) hg h ⟨t, rfl⟩ (fun _ => .int i) hd
theorem de_gstr {c : Cs} (hg : Gl X x) (h : ∃ t, X.mg x = some (.str (S c) t)) (hd : (x == ("__debug__" : Str)) = false := by decide) : PE X (.Name x pos) (up X.K (dC (.str c))) := by
  obtain ⟨t, h⟩ := h
  exact de_glob (v := .str (S c)) hg h ⟨t, rfl⟩ (fun _ => .str c) hd
theorem de_gtup {d : D} (hg : Gl X x) (h : ∃ a, X.mg x = some (.ref a) ∧ ∀ H, Is X.K H (.ref a) d) (hd : (x == ("__debug__" : Str)) = false := by decide) : PE X (.Name x pos) (up X.K (dC d)) := by
  obtain ⟨a, h, hi⟩ := h
  exact de_glob (v := .ref a) hg h rfl hi hd
end
structure Txt (K : PySem.W.Frag) (mg : Str → Option Value) : Prop where
  m_isinstance : mg "isinstance" = none
  m_str : mg "str" = none
  m_tuple : mg "tuple" = none
  m_int : mg "int" = none
  m_bool : mg "bool" = none
  m_len : mg "len" = none
  m_all : mg "all" = none
  m_min : mg "min" = none
  m_range : mg "range" = none
  m_sorted : mg "sorted" = none
  m_list : mg "list" = none
  m_sum : mg "sum" = none
  m_abs : mg "abs" = none
  c_MOST_NAMES : ∃ t, mg "MOST_NAMES" = some (.int 3 t)
  c_FIRST_YEAR : ∃ t, mg "FIRST_YEAR" = some (.int 1000 t)
  c_LAST_YEAR : ∃ t, mg "LAST_YEAR" = some (.int 2999 t)
  c_LAST_VOLUME : ∃ t, mg "LAST_VOLUME" = some (.int 999 t)
  c_MOST_LETTERS : ∃ t, mg "MOST_LETTERS" = some (.int 40 t)
  c_MOST_SIGNS : ∃ t, mg "MOST_SIGNS" = some (.int 2 t)
  c_MOST_PIECES : ∃ t, mg "MOST_PIECES" = some (.int 10 t)
  c_MOST_IN_IF : ∃ t, mg "MOST_IN_IF" = some (.int 3 t)
  c_MOST_MARK : ∃ t, mg "MOST_MARK" = some (.int 3 t)
  c_MOST_GAP : ∃ t, mg "MOST_GAP" = some (.int 2 t)
  c_MOST_SHOWN : ∃ t, mg "MOST_SHOWN" = some (.int 3 t)
  c_SHOWN_SIZE : ∃ t, mg "SHOWN_SIZE" = some (.int 7 t)
  c_CAPITALS : ∃ t, mg "CAPITALS" = some (.str (S k_ABCDEFGHIJKLMNOPQRST) t)
  c_SMALLS : ∃ t, mg "SMALLS" = some (.str (S k_abcdefghijklmnopqrst) t)
  c_SHAPES : ∃ a, mg "SHAPES" = some (.ref a) ∧ ∀ H, Is K H (.ref a) D_SHAPES
  c_FIELDS : ∃ a, mg "FIELDS" = some (.ref a) ∧ ∀ H, Is K H (.ref a) D_FIELDS
  c_WAYS : ∃ a, mg "WAYS" = some (.ref a) ∧ ∀ H, Is K H (.ref a) D_WAYS
end Ib
set_option Elab.async false
set_option linter.all false
set_option autoImplicit false
set_option maxRecDepth 100000
set_option maxHeartbeats 4000000
/-! IbM0: what the defs of ibidem.books compute. -/
namespace Ib
open PySem PySem.Spec PyProof.Rows L2 TL
variable [Tabl]
abbrev CAPS : Cs := k_ABCDEFGHIJKLMNOPQRST
abbrev SMALL : Cs := k_abcdefghijklmnopqrst
def allOf (l s : Cs) : Bool := l.all fun c => decide (c ∈ s)
def isFamL : Cs → Bool
  | [] => false
  | c :: r => decide (c ∈ CAPS) && allOf r SMALL
def isFam : D → Bool
  | .str l => isFamL l
  | _ => false
def isGivL (l : Cs) : Bool := (!decide (l = [])) && allOf l CAPS
def isGiv : D → Bool
  | .str l => isGivL l
  | _ => false
def isIntP : D → Bool
  | .int _ => true
  | _ => false
/-- a text cut at blanks -/
def sp1 : Cs → List Cs
  | [] => [[]]
  | c :: r => if c = 32 then [] :: sp1 r else (match sp1 r with
    | [] => [[c]]
    | w :: ws => (c :: w) :: ws)
theorem sp1_ne : ∀ l : Cs, ∃ w ws, sp1 l = w :: ws
  | [] => ⟨_, _, rfl⟩
  | c :: r => by
    unfold sp1
    split
    · exact ⟨_, _, rfl⟩
    · split <;> exact ⟨_, _, rfl⟩
theorem spl_sp1 : ∀ (l acc : Cs), spl [32] 0 acc l = (match sp1 l with
    | [] => []
    | w :: ws => (acc ++ w) :: ws)
  | [], acc => by rw [spl_nil]; simp [sp1]
  | c :: r, acc => by
    by_cases hc : c = 32
    · subst hc
      rw [spl_hit (by rfl)]
      have := spl_sp1 r []
      obtain ⟨w, ws, e⟩ := sp1_ne r
      simp only [List.length_singleton, Nat.sub_self, this, e, sp1, if_pos, List.nil_append, List.append_nil]
    · rw [spl_miss (by simp [pre, hc]), spl_sp1 r]
      obtain ⟨w, ws, e⟩ := sp1_ne r
      simp only [sp1, if_neg hc, e, List.append_assoc, List.singleton_append]
theorem splitC_eq (l : Cs) : splitC l = sp1 l := by
  unfold splitC
  rw [spl_sp1]
  obtain ⟨w, ws, e⟩ := sp1_ne l
  simp [e]
theorem sp1_len : ∀ l : Cs, (sp1 l).length ≤ l.length + 1
  | [] => Nat.le_refl _
  | c :: r => by
    have := sp1_len r
    unfold sp1
    split
    · simp; exact this
    · split
      · simp
      · rename_i e; rw [e] at this; simp at this ⊢; omega
theorem sp1_mem : ∀ (l w : Cs), w ∈ sp1 l → w.length ≤ l.length
  | [], w, h => by simp [sp1] at h; simp [h]
  | c :: r, w, h => by
    have ih := sp1_mem r
    unfold sp1 at h
    split at h
    · rcases List.mem_cons.mp h with rfl | h
      · simp
      · have := ih w h; simp; omega
    · split at h
      · rcases List.mem_cons.mp h with rfl | h
        · simp
        · cases h
      · rename_i w0 ws e
        rcases List.mem_cons.mp h with rfl | h
        · have := ih w0 (by rw [e]; simp); simp; exact this
        · have := ih w (by rw [e]; simp [h]); simp; omega
def isTitL (l : Cs) : Bool := match sp1 l with
  | [] => false
  | w :: ws => isFamL w && ws.all fun w => (!decide (w = [])) && allOf w SMALL
def isTit : D → Bool
  | .str l => isTitL l
  | _ => false
def isNam : D → Bool
  | .tup [a, b] => isFam a && isGiv b
  | _ => false
def btw (a b : Int) : D → Bool
  | .int i => decide (a ≤ i) && decide (i ≤ b)
  | _ => false
def isNon : D → Bool
  | .non => true
  | _ => false
def isNams : D → Bool
  | .tup ns => (decide (1 ≤ ns.length) && decide (ns.length ≤ 3)) && ns.all isNam
  | _ => false
def isBook : D → Bool
  | .tup [names, year, title, place, volume] => isNams names && (btw 1000 2999 year && (isTit title && ((isNon place || isFam place) && (isNon volume || btw 1 999 volume))))
  | _ => false
def p_is_integer : PSp := fun a R => ∃ x, a = [x] ∧ R (.d (.bl (isIntP x)))
def p_are_all_of : PSp := fun a R => ∃ l s, a = [.str l, .str s] ∧ l.length ≤ 1000 ∧ R (.d (.bl (allOf l s)))
def p_is_family : PSp := fun a R => ∃ x, a = [x] ∧ Sm x ∧ R (.d (.bl (isFam x)))
def p_is_given : PSp := fun a R => ∃ x, a = [x] ∧ Sm x ∧ R (.d (.bl (isGiv x)))
@[simp] theorem e_is_integer (x : D) (R : U → Prop) : p_is_integer [x] R ↔ R (.d (.bl (isIntP x))) := by simp [p_is_integer]
@[simp] theorem e_are_all_of (l s : Cs) (R : U → Prop) : p_are_all_of [.str l, .str s] R ↔ l.length ≤ 1000 ∧ R (.d (.bl (allOf l s))) := by
  unfold p_are_all_of
  constructor
  · rintro ⟨_, _, e, h⟩
    cases e
    exact h
  · exact fun h => ⟨l, s, rfl, h⟩
@[simp] theorem e_is_family (x : D) (R : U → Prop) : p_is_family [x] R ↔ Sm x ∧ R (.d (.bl (isFam x))) := by simp [p_is_family]
@[simp] theorem e_is_given (x : D) (R : U → Prop) : p_is_given [x] R ↔ Sm x ∧ R (.d (.bl (isGiv x))) := by simp [p_is_given]
def p_is_title : PSp := fun a R => ∃ x, a = [x] ∧ Sm x ∧ R (.d (.bl (isTit x)))
def p_is_name : PSp := fun a R => ∃ x, a = [x] ∧ Sm x ∧ R (.d (.bl (isNam x)))
def p_is_book : PSp := fun a R => ∃ x, a = [x] ∧ Sm x ∧ R (.d (.bl (isBook x)))
@[simp] theorem e_is_title (x : D) (R : U → Prop) : p_is_title [x] R ↔ Sm x ∧ R (.d (.bl (isTit x))) := by simp [p_is_title]
@[simp] theorem e_is_name (x : D) (R : U → Prop) : p_is_name [x] R ↔ Sm x ∧ R (.d (.bl (isNam x))) := by simp [p_is_name]
@[simp] theorem e_is_book (x : D) (R : U → Prop) : p_is_book [x] R ↔ Sm x ∧ R (.d (.bl (isBook x))) := by simp [p_is_book]
theorem len_is_integer (a : List D) (R : U → Prop) (h : p_is_integer a R) : a.length = 1 := by
  unfold p_is_integer at h
  obtain ⟨x0, rfl, _⟩ := h
  rfl
theorem len_are_all_of (a : List D) (R : U → Prop) (h : p_are_all_of a R) : a.length = 2 := by obtain ⟨x, y, rfl, _⟩ := h; rfl
theorem len_is_family (a : List D) (R : U → Prop) (h : p_is_family a R) : a.length = 1 := by
  unfold p_is_family at h
  obtain ⟨x0, rfl, _⟩ := h
  rfl
theorem len_is_given (a : List D) (R : U → Prop) (h : p_is_given a R) : a.length = 1 := by
  unfold p_is_given at h
  obtain ⟨x0, rfl, _⟩ := h
  rfl
theorem len_is_title (a : List D) (R : U → Prop) (h : p_is_title a R) : a.length = 1 := by
  unfold p_is_title at h
  obtain ⟨x0, rfl, _⟩ := h
  rfl
theorem len_is_name (a : List D) (R : U → Prop) (h : p_is_name a R) : a.length = 1 := by
  unfold p_is_name at h
  obtain ⟨x0, rfl, _⟩ := h
  rfl
theorem len_is_book (a : List D) (R : U → Prop) (h : p_is_book a R) : a.length = 1 := by
  unfold p_is_book at h
  obtain ⟨x0, rfl, _⟩ := h
  rfl
def ds_is_integer : DS :=
    (sRet (dAndV (dIsi isInt (dVar 0)) (dNotV (dIsi isBl (dVar 0)))))

def ds_are_all_of : DS :=
    (sRet (dCB (vOne fAll) (dCons (dLc (icS (dVar 0)) (gN 2) ttYes (d2 (p2 sIn1) (dVar 2) (dVar 1)) [2]) dNil)))

def ds_is_family : DS :=
    (sSeq (sIf (dOr (dNot (dB (dIsi isStr (dVar 0)))) (dB (d2 (p2 sEq) (dVar 0) (dC (.str k_empty))))) (sRet (dC (.bl false))) sNext)
    (sRet (dAndV (d2 (p2 sIn1) (d2 vIx (dVar 0) (dC (.int 0))) (dC (.str k_ABCDEFGHIJKLMNOPQRST))) (dCallP p_are_all_of (dCons (dSl vSlS (dVar 0) (dPart (dC (.int 1))) dNoP) (dCons (dC (.str k_abcdefghijklmnopqrst)) dNil))))))

def ds_is_given : DS :=
    (sRet (dAndV (dIsi isStr (dVar 0)) (dAndV (d2 (p2 sNe) (dVar 0) (dC (.str k_empty))) (dCallP p_are_all_of (dCons (dVar 0) (dCons (dC (.str k_ABCDEFGHIJKLMNOPQRST)) dNil))))))

def ds_is_title : DS :=
    (sSeq (sIf (dNot (dB (dIsi isStr (dVar 0)))) (sRet (dC (.bl false))) sNext)
    (sSeq (sSet (dMS mSplit (dVar 0) (dCons (dC (.str k_x32)) dNil)) 1)
    (sRet (dAndV (dCallP p_is_family (dCons (d2 vIx (dVar 1) (dC (.int 0))) dNil)) (dCB (vOne fAll) (dCons (dLc (icL (dSl vSlL (dVar 1) (dPart (dC (.int 1))) dNoP)) (gN 2) ttYes (dAndV (d2 (p2 sNe) (dVar 2) (dC (.str k_empty))) (dCallP p_are_all_of (dCons (dVar 2) (dCons (dC (.str k_abcdefghijklmnopqrst)) dNil)))) [2]) dNil))))))

def ds_is_name : DS :=
    (sRet (dAndV (dIsi isTup (dVar 0)) (dAndV (d2 (p2 sEq) (dCB (vOne fLen) (dCons (dVar 0) dNil)) (dC (.int 2))) (dAndV (dCallP p_is_family (dCons (d2 vIx (dVar 0) (dC (.int 0))) dNil)) (dCallP p_is_given (dCons (d2 vIx (dVar 0) (dC (.int 1))) dNil))))))

def ds_is_book : DS :=
    (sSeq (sIf (dOr (dNot (dB (dIsi isTup (dVar 0)))) (dB (d2 (p2 sNe) (dCB (vOne fLen) (dCons (dVar 0) dNil)) (dC (.int 5))))) (sRet (dC (.bl false))) sNext)
    (sSeq (sAsg (dVar 0) (gT 5 (gsCons (gN 1) (gsCons (gN 2) (gsCons (gN 3) (gsCons (gN 4) (gsCons (gN 5) gsNil)))))))
    (sSeq (sIf (dOr (dNot (dB (dIsi isTup (dVar 1)))) (dOr (dNot (dB (dChain (p2 (iCmp fun i j => decide (i ≤ j))) (p2 (iCmp fun i j => decide (i ≤ j))) (dC (.int 1)) (dCB (vOne fLen) (dCons (dVar 1) dNil)) (dC (.int 3))))) (dNot (dB (dCB (vOne fAll) (dCons (dLc (icT (dVar 1)) (gN 6) ttYes (dCallP p_is_name (dCons (dVar 6) dNil)) [6]) dNil)))))) (sRet (dC (.bl false))) sNext)
    (sSeq (sIf (dOr (dNot (dB (dCallP p_is_integer (dCons (dVar 2) dNil)))) (dOr (dNot (dB (dChain (p2 (iCmp fun i j => decide (i ≤ j))) (p2 (iCmp fun i j => decide (i ≤ j))) (dC (.int 1000)) (dVar 2) (dC (.int 2999))))) (dNot (dB (dCallP p_is_title (dCons (dVar 3) dNil)))))) (sRet (dC (.bl false))) sNext)
    (sSeq (sIf (dAnd (dB (d2 (p2 nNot) (dVar 4) (dC .non))) (dNot (dB (dCallP p_is_family (dCons (dVar 4) dNil))))) (sRet (dC (.bl false))) sNext)
    (sRet (dOrV (d2 (p2 nIs) (dVar 5) (dC .non)) (dAndV (dCallP p_is_integer (dCons (dVar 5) dNil)) (dChain (p2 (iCmp fun i j => decide (i ≤ j))) (p2 (iCmp fun i j => decide (i ≤ j))) (dC (.int 1)) (dVar 5) (dC (.int 999)))))))))))
theorem sem_is_integer (a : List D) (R : U → Prop) (h : p_is_integer a R) : ds_is_integer { nx := fun _ => R (.d .non), rt := resR R } (slots N_is_integer (a.map U.d)) := by
  obtain ⟨x, rfl, h⟩ := h
  cases x <;> exact h
theorem sem_are_all_of (a : List D) (R : U → Prop) (h : p_are_all_of a R) : ds_are_all_of { nx := fun _ => R (.d .non), rt := resR R } (slots N_are_all_of (a.map U.d)) := by
  obtain ⟨l, s, rfl, hl, h⟩ := h
  simp only [ds_are_all_of, sRet]
  refine allLc (xs := signs1 l) (ok := fun _ => True) (fun x => (match x with
    | .str [c] => decide (c ∈ s)
    | _ => false)) (fun R' h => h) trivial (free1 rfl) (by rw [signs1_len]; exact thou hl) (fun x hx P hP => ?_) ?_
  · obtain ⟨c, _, rfl⟩ := mem_signs1 hx
    exact hP _ rfl
  · have e : ((signs1 l).all fun x => (match x with
      | .str [c] => decide (c ∈ s)
      | _ => false)) = allOf l s := by
      unfold signs1
      rw [List.all_map]
      rfl
    rw [e]
    exact h
theorem sem_is_family (a : List D) (R : U → Prop) (h : p_is_family a R) : ds_is_family { nx := fun _ => R (.d .non), rt := resR R } (slots N_is_family (a.map U.d)) := by
  obtain ⟨x, rfl, hs, h⟩ := h
  cases x with
  | str l =>
    cases l with
    | nil => exact h
    | cons c r =>
      simp only [Sm_str, List.length_cons] at hs
      refine guardF false (fun P hP => hP) (fun z => nomatch z) fun _ => ?_
      refine retV ?_
      refine andV (decide (c ∈ CAPS)) (allOf r SMALL) (fun P hP => ?_) (fun _ P hP => ?_) (by exact h)
      · simp
        exact ⟨thou hs, hP⟩
      · simp
        exact ⟨thou hs, by omega, hP⟩
  | _ => exact h
theorem sem_is_given (a : List D) (R : U → Prop) (h : p_is_given a R) : ds_is_given { nx := fun _ => R (.d .non), rt := resR R } (slots N_is_given (a.map U.d)) := by
  obtain ⟨x, rfl, hs, h⟩ := h
  cases x with
  | str l =>
    simp only [Sm_str] at hs
    refine retV ?_
    refine andV true (isGivL l) (fun P hP => hP) (fun _ P hP => ?_) (by exact h)
    refine andV (!decide (l = [])) (allOf l CAPS) (fun P hP => hP) (fun _ P hP => ?_) (by exact hP)
    simp
    exact ⟨hs, hP⟩
  | _ => exact h
theorem mem_strs {ls : List Cs} {x : D} (h : x ∈ ls.map D.str) : ∃ l, l ∈ ls ∧ x = .str l := by
  obtain ⟨c, h1, h2⟩ := List.mem_map.mp h
  exact ⟨c, h1, h2.symm⟩
theorem sem_is_title (a : List D) (R : U → Prop) (h : p_is_title a R) : ds_is_title { nx := fun _ => R (.d .non), rt := resR R } (slots N_is_title (a.map U.d)) := by
  obtain ⟨x, rfl, hs, h⟩ := h
  cases x with
  | str l =>
    simp only [Sm_str] at hs
    simp only [isTit, isTitL] at h
    obtain ⟨w, ws, e⟩ := sp1_ne l
    have hl := sp1_len l
    have hm := sp1_mem l
    rw [e] at h hl hm
    refine guardF false (fun P hP => hP) (fun z => nomatch z) fun _ => ?_
    refine ⟨trivial, rfl, mill (by omega), ?_⟩
    rw [splitC_eq, e]
    dsimp only
    refine retV ?_
    refine andV (isFamL w) (ws.all fun w => (!decide (w = [])) && allOf w SMALL) (fun P hP => ?_) (fun _ P hP => ?_) (by exact h)
    · simp
      exact ⟨Nat.le_trans (hm w (by simp)) hs, hP⟩
    · refine allLc (xs := ws.map D.str) (ok := fun _ => True) (fun x => (match x with
        | .str w => (!decide (w = [])) && allOf w SMALL
        | _ => false)) (fun R' h => ?_) trivial (free1 rfl) (by simp at hl ⊢; exact mill (by omega)) (fun x hx P hP => ?_) ?_
      · simp
        exact h
      · obtain ⟨v, hv, rfl⟩ := mem_strs hx
        have hv := hm v (by simp [hv])
        refine andV (!decide (v = [])) (allOf v SMALL) (fun P hP => hP) (fun _ P hP => ?_) (hP _ rfl)
        simp
        exact ⟨by omega, hP⟩
      · rw [List.all_map]
        exact hP
  | _ => exact h
theorem sem_is_name (a : List D) (R : U → Prop) (h : p_is_name a R) : ds_is_name { nx := fun _ => R (.d .non), rt := resR R } (slots N_is_name (a.map U.d)) := by
  obtain ⟨x, rfl, hs, h⟩ := h
  cases x with
  | tup xs =>
    match xs, hs, h with
    | [], hs, h => exact h
    | [x], hs, h => exact h
    | [x, y], hs, h =>
      simp at hs
      refine retV ?_
      refine andV true (isFam x && isGiv y) (fun P hP => hP) (fun _ P hP => ?_) (by exact h)
      refine andV true (isFam x && isGiv y) (fun P hP => hP) (fun _ P hP => ?_) (by exact hP)
      refine andV (isFam x) (isGiv y) (fun P hP => ?_) (fun _ P hP => ?_) (by exact hP)
      · simp
        exact ⟨hs.1, hP⟩
      · simp
        exact ⟨hs.2, hP⟩
    | x :: y :: z :: r, hs, h =>
      simp [ds_is_name]
      have e : decide ((r.length : Int) + 1 + 1 + 1 = 2) = false := decide_eq_false (by omega)
      rw [e]
      exact h
  | _ => exact h
theorem btw_ok {a b : Int} {x : D} {i : Nat} {δ : DEnv} {P : U → DEnv → Prop} (hi : isIntP x = true) (hx : δ[i]? = some (some (.d x))) (h : P (.d (.bl (btw a b x))) δ) : dChain (p2 (iCmp fun i j => decide (i ≤ j))) (p2 (iCmp fun i j => decide (i ≤ j))) (dC (.int a)) (dVar i) (dC (.int b)) δ P := by
  cases x with
  | int k =>
    simp only [dChain, dC, dVar, hx, p2, iCmp]
    refine ifB_of (fun e => ?_) fun e => ?_
    · simp only [btw, e, Bool.true_and] at h
      exact h
    · simp only [btw, e, Bool.false_and] at h
      exact h
  | _ => cases hi
theorem sem_is_book (a : List D) (R : U → Prop) (h : p_is_book a R) : ds_is_book { nx := fun _ => R (.d .non), rt := resR R } (slots N_is_book (a.map U.d)) := by
  obtain ⟨x, rfl, hs, h⟩ := h
  cases x with
  | tup xs =>
    match xs, hs, h with
    | [names, year, title, place, volume], hs, h =>
      simp at hs
      obtain ⟨s1, s2, s3, s4, s5⟩ := hs
      simp only [isBook] at h
      refine guardF false (fun P hP => hP) (fun z => nomatch z) fun _ => ?_
      refine ⟨rfl, ?_⟩
      dsimp only [gsCons, gN, gsNil]
      refine ⟨rfl, ?_⟩
      -- names
      refine guardF (!isNams names) (fun P hP => ?_) (fun hb => ?_) fun hb => ?_
      · cases names with
        | tup ns =>
          simp at s1
          refine orT false (!isNams (.tup ns)) (fun P hP => hP) (fun _ P hP => ?_) hP
          refine orT (!(decide (1 ≤ ns.length) && decide (ns.length ≤ 3))) (!ns.all isNam) (fun P hP => ?_) (fun _ P hP => ?_) (by
            simp only [isNams] at hP
            rw [Bool.not_and] at hP
            exact hP)
          · refine notT _ (fun P hP => ?_) hP
            simp
            refine ifB_of (fun e => ?_) fun e => ?_
            · have e1 : decide (1 ≤ ns.length) = true := decide_eq_true (by have := of_decide_eq_true e; omega)
              rw [e1] at hP
              have e2 : decide (ns.length ≤ 3) = decide ((ns.length : Int) ≤ 3) := by simp; omega
              rw [e2] at hP
              exact hP
            · have e1 : decide (1 ≤ ns.length) = false := decide_eq_false (by have := of_decide_eq_false e; omega)
              rw [e1] at hP
              exact hP
          · refine notT _ (fun P hP => bT _ (fun P hP => ?_) hP) hP
            refine allLc (xs := ns) (ok := fun _ => True) isNam (fun R' h => h) trivial (free1 rfl) (thou s1.1) (fun x hx P hP => ?_) hP
            simp
            exact ⟨s1.2.mem hx, hP _ rfl⟩
        | _ => exact hP
      · simp at hb
        rw [hb] at h
        exact h
      have hb : isNams names = true := by simpa using hb
      rw [hb, Bool.true_and] at h
      -- year, title
      refine guardF (!(btw 1000 2999 year && isTit title)) (fun P hP => ?_) (fun hb => ?_) fun hb => ?_
      · refine orT (!isIntP year) (!(btw 1000 2999 year && isTit title)) (fun P hP => ?_) (fun hi P hP => ?_) ?_
        · refine notT _ (fun P hP => bT _ (fun P hP => ?_) hP) hP
          simp
          exact hP
        · have hi : isIntP year = true := by simpa using hi
          refine orT (!btw 1000 2999 year) (!isTit title) (fun P hP => ?_) (fun _ P hP => ?_) (by
            rw [Bool.not_and] at hP
            exact hP)
          · exact notT _ (fun P hP => bT _ (fun P hP => btw_ok hi rfl hP) hP) hP
          · refine notT _ (fun P hP => bT _ (fun P hP => ?_) hP) hP
            simp
            exact ⟨s3, hP⟩
        · cases hy : isIntP year with
          | true => exact hP
          | false =>
            have : btw 1000 2999 year = false := by cases year <;> first | rfl | cases hy
            rw [this] at hP
            exact hP
      · have hb : (btw 1000 2999 year && isTit title) = false := nbT hb
        rw [← Bool.and_assoc, hb] at h
        exact h
      have hb : (btw 1000 2999 year && isTit title) = true := nbF hb
      rw [← Bool.and_assoc, hb, Bool.true_and] at h
      -- place
      refine guardF (!(isNon place || isFam place)) (fun P hP => ?_) (fun hb => ?_) fun hb => ?_
      · refine andT (!isNon place) (!isFam place) (fun P hP => ?_) (fun _ P hP => ?_) (by rw [Bool.not_or] at hP; exact hP)
        · cases place <;> exact hP
        · refine notT _ (fun P hP => bT _ (fun P hP => ?_) hP) hP
          simp
          exact ⟨s4, hP⟩
      · have hb : (isNon place || isFam place) = false := nbT hb
        rw [hb] at h
        exact h
      have hb : (isNon place || isFam place) = true := nbF hb
      rw [hb, Bool.true_and] at h
      -- volume
      refine retV ?_
      refine orV (isNon volume) (btw 1 999 volume) (fun P hP => ?_) (fun _ P hP => ?_) (by exact h)
      · cases volume <;> exact hP
      · cases hy : isIntP volume with
        | true =>
          refine andV true (btw 1 999 volume) (fun P hP => ?_) (fun _ P hP => btw_ok hy rfl hP) hP
          simp [hy]
          exact hP
        | false =>
          have : btw 1 999 volume = false := by cases volume <;> first | rfl | cases hy
          rw [this] at hP
          refine andV false false (fun P hP => ?_) (fun z => nomatch z) hP
          simp [hy]
          exact hP
    | [], hs, h => exact h
    | [_], hs, h => exact h
    | [_, _], hs, h => exact h
    | [_, _, _], hs, h => exact h
    | [_, _, _, _], hs, h => exact h
    | _ :: _ :: _ :: _ :: _ :: _ :: r, hs, h =>
      refine guardF true (fun P hP => ?_) (fun _ => h) (fun z => nomatch z)
      refine orT false true (fun P hP => hP) (fun _ P hP => ?_) hP
      have e : decide (((r.length + 1 + 1 + 1 + 1 + 1 + 1 : Nat) : Int) = 5) = false := decide_eq_false (by omega)
      refine bT true (fun P hP => ?_) hP
      simp
      have e : decide ((r.length : Int) + 1 + 1 + 1 + 1 + 1 + 1 = 5) = false := decide_eq_false (by omega)
      rw [e]
      exact hP
  | _ => exact h
section
variable {P : Program} {w : World} {K : PySem.W.Frag} {mg : Str → Option Value} {base : Heap}
theorem ok_is_integer (T : Txt K mg) (F : Df K mg "is_integer" s_is_integer) : Ok P w K mg base 1 "is_integer" ["value"] (spP K p_is_integer) := by
  obtain ⟨f, fd, F, g⟩ := F
  refine ⟨f, fd, fnP F sc_is_integer (fun a R h => len_is_integer a R h) (by decide) (ds := ds_is_integer) (fun cdv A outer s H E hr => ?_) sem_is_integer, g, F.kp, F.binds fun _ _ _ _ _ _ us hl => match us, hl with | [_], _ => rfl⟩
  exact (dss_one (ds_ret (de_and (de_isi kit_isInt (by rfl) T.m_isinstance (by decide +kernel) (by rfl) T.m_int (by decide +kernel) (dv 0)) (de_one (de_not (de_isi kit_isBl (by rfl) T.m_isinstance (by decide +kernel) (by rfl) T.m_bool (by decide +kernel) (dv 0)))))))

theorem ok_are_all_of (T : Txt K mg) (F : Df K mg "are_all_of" s_are_all_of) : Ok P w K mg base 1 "are_all_of" ["text", "signs"] (spP K p_are_all_of) := by
  obtain ⟨f, fd, F, g⟩ := F
  refine ⟨f, fd, fnP F sc_are_all_of (fun a R h => len_are_all_of a R h) (by decide) (ds := ds_are_all_of) (fun cdv A outer s H E hr => ?_) sem_are_all_of, g, F.kp, F.binds fun _ _ _ _ _ _ us hl => match us, hl with | [_, _], _ => rfl⟩
  exact (dss_one (ds_ret (de_callB (cr_all rfl) lift_all (by rfl) T.m_all (by decide +kernel) (da_cons (de_lc (own := [("sign", 2)]) rfl sc_are_all_of.nd (ic_str (dv 0)) (blkOk_by (own := [("sign", 2)]) (N := N_are_all_of) (sc := defScope s_are_all_of) (by decide +kernel)) (fun _ _ _ _ _ => (dg_name 2 (by decide) sc_are_all_of.nd)) (fun _ _ _ _ _ => dts_nil) (fun _ _ _ _ _ => (de_cmp op_in_sign lift_sIn1 (dv 2) (dv 1) (by rfl)))) da_nil))))

theorem ok_is_family (T : Txt K mg) (F : Df K mg "is_family" s_is_family) (O_are_all_of : Ok P w K mg base 1 "are_all_of" ["text", "signs"] (spP K p_are_all_of)) : Ok P w K mg base 2 "is_family" ["value"] (spP K p_is_family) := by
  obtain ⟨f, fd, F, g⟩ := F
  refine ⟨f, fd, fnP F sc_is_family (fun a R h => len_is_family a R h) (by decide) (ds := ds_is_family) (fun cdv A outer s H E hr => ?_) sem_is_family, g, F.kp, F.binds fun _ _ _ _ _ _ us hl => match us, hl with | [_], _ => rfl⟩
  exact (dss_cons (ds_if (PW.pt (dw_or (dt_not (dt_val (de_isi kit_isStr (by rfl) T.m_isinstance (by decide +kernel) (by rfl) T.m_str (by decide +kernel) (dv 0)))) (dw_or1 (dt_cmp op_eq lift_eq (dv 0) (de_str e_empty) (nomark _))))) (dss_one (ds_ret de_bl)) dss_nil)
    (dss_one (ds_ret (de_and (de_cmp op_in_sign lift_sIn1 (de_ix ix_seq lift_ix (dv 0) de_int) (de_gstr (by rfl) T.c_CAPITALS) (by rfl)) (de_one (dcall O_are_all_of (by exact hr.mono (by decide)) (by rfl) (da_cons (de_slice sl_str lift_slS (dv 0) (do_some de_int) do_none) (da_cons (de_gstr (by rfl) T.c_SMALLS) da_nil))))))))

theorem ok_is_given (T : Txt K mg) (F : Df K mg "is_given" s_is_given) (O_are_all_of : Ok P w K mg base 1 "are_all_of" ["text", "signs"] (spP K p_are_all_of)) : Ok P w K mg base 2 "is_given" ["value"] (spP K p_is_given) := by
  obtain ⟨f, fd, F, g⟩ := F
  refine ⟨f, fd, fnP F sc_is_given (fun a R h => len_is_given a R h) (by decide) (ds := ds_is_given) (fun cdv A outer s H E hr => ?_) sem_is_given, g, F.kp, F.binds fun _ _ _ _ _ _ us hl => match us, hl with | [_], _ => rfl⟩
  exact (dss_one (ds_ret (de_and (de_isi kit_isStr (by rfl) T.m_isinstance (by decide +kernel) (by rfl) T.m_str (by decide +kernel) (dv 0)) (de_and (de_cmp op_ne lift_ne (dv 0) (de_str e_empty) (nomark _)) (de_one (dcall O_are_all_of (by exact hr.mono (by decide)) (by rfl) (da_cons (dv 0) (da_cons (de_gstr (by rfl) T.c_CAPITALS) da_nil))))))))

theorem ok_is_title (T : Txt K mg) (F : Df K mg "is_title" s_is_title) (O_is_family : Ok P w K mg base 2 "is_family" ["value"] (spP K p_is_family)) (O_are_all_of : Ok P w K mg base 1 "are_all_of" ["text", "signs"] (spP K p_are_all_of)) : Ok P w K mg base 3 "is_title" ["value"] (spP K p_is_title) := by
  obtain ⟨f, fd, F, g⟩ := F
  refine ⟨f, fd, fnP F sc_is_title (fun a R h => len_is_title a R h) (by decide) (ds := ds_is_title) (fun cdv A outer s H E hr => ?_) sem_is_title, g, F.kp, F.binds fun _ _ _ _ _ _ us hl => match us, hl with | [_], _ => rfl⟩
  exact (dss_cons (ds_if (dt_not (dt_val (de_isi kit_isStr (by rfl) T.m_isinstance (by decide +kernel) (by rfl) T.m_str (by decide +kernel) (dv 0)))) (dss_one (ds_ret de_bl)) dss_nil)
    (dss_cons (ds_set 1 (by decide) sc_is_title.nd (de_ms PySem.F.plainAttrs_str PySem.F.slot_str_split PySem.F.type_str_split mt_split lift_split (dv 0) (da_cons (de_str e_x32) da_nil)))
    (dss_one (ds_ret (de_and (dcall O_is_family (by exact hr.mono (by decide)) (by rfl) (da_cons (de_ix ix_seq lift_ix (dv 1) de_int) da_nil)) (de_one (de_callB (cr_all rfl) lift_all (by rfl) T.m_all (by decide +kernel) (da_cons (de_lc (own := [("word", 2)]) rfl sc_is_title.nd (ic_lst (de_slice sl_list lift_slL (dv 1) (do_some de_int) do_none)) (blkOk_by (own := [("word", 2)]) (N := N_is_title) (sc := defScope s_is_title) (by decide +kernel)) (fun _ _ _ _ _ => (dg_name 2 (by decide) sc_is_title.nd)) (fun _ _ _ _ _ => dts_nil) (fun _ _ _ _ _ => (de_and (de_cmp op_ne lift_ne (dv 2) (de_str e_empty) (nomark _)) (de_one (dcall O_are_all_of (by exact hr.mono (by decide)) (by rfl) (da_cons (dv 2) (da_cons (de_gstr (by rfl) T.c_SMALLS) da_nil))))))) da_nil))))))))

theorem ok_is_name (T : Txt K mg) (F : Df K mg "is_name" s_is_name) (O_is_family : Ok P w K mg base 2 "is_family" ["value"] (spP K p_is_family)) (O_is_given : Ok P w K mg base 2 "is_given" ["value"] (spP K p_is_given)) : Ok P w K mg base 3 "is_name" ["value"] (spP K p_is_name) := by
  obtain ⟨f, fd, F, g⟩ := F
  refine ⟨f, fd, fnP F sc_is_name (fun a R h => len_is_name a R h) (by decide) (ds := ds_is_name) (fun cdv A outer s H E hr => ?_) sem_is_name, g, F.kp, F.binds fun _ _ _ _ _ _ us hl => match us, hl with | [_], _ => rfl⟩
  exact (dss_one (ds_ret (de_and (de_isi kit_isTup (by rfl) T.m_isinstance (by decide +kernel) (by rfl) T.m_tuple (by decide +kernel) (dv 0)) (de_and (de_cmp op_eq lift_eq (de_callB call_len lift_len (by rfl) T.m_len (by decide +kernel) (da_cons (dv 0) da_nil)) de_int (nomark _)) (de_and (dcall O_is_family (by exact hr.mono (by decide)) (by rfl) (da_cons (de_ix ix_seq lift_ix (dv 0) de_int) da_nil)) (de_one (dcall O_is_given (by exact hr.mono (by decide)) (by rfl) (da_cons (de_ix ix_seq lift_ix (dv 0) de_int) da_nil))))))))

theorem ok_is_book (T : Txt K mg) (F : Df K mg "is_book" s_is_book) (O_is_name : Ok P w K mg base 3 "is_name" ["value"] (spP K p_is_name)) (O_is_integer : Ok P w K mg base 1 "is_integer" ["value"] (spP K p_is_integer)) (O_is_title : Ok P w K mg base 3 "is_title" ["value"] (spP K p_is_title)) (O_is_family : Ok P w K mg base 2 "is_family" ["value"] (spP K p_is_family)) : Ok P w K mg base 4 "is_book" ["value"] (spP K p_is_book) := by
  obtain ⟨f, fd, F, g⟩ := F
  refine ⟨f, fd, fnP F sc_is_book (fun a R h => len_is_book a R h) (by decide) (ds := ds_is_book) (fun cdv A outer s H E hr => ?_) sem_is_book, g, F.kp, F.binds fun _ _ _ _ _ _ us hl => match us, hl with | [_], _ => rfl⟩
  exact (dss_cons (ds_if (PW.pt (dw_or (dt_not (dt_val (de_isi kit_isTup (by rfl) T.m_isinstance (by decide +kernel) (by rfl) T.m_tuple (by decide +kernel) (dv 0)))) (dw_or1 (dt_cmp op_ne lift_ne (de_callB call_len lift_len (by rfl) T.m_len (by decide +kernel) (da_cons (dv 0) da_nil)) de_int (nomark _))))) (dss_one (ds_ret de_bl)) dss_nil)
    (dss_cons (ds_asg (dv 0) (dg_tup rfl (dgs_cons (dg_name 1 (by decide) sc_is_book.nd) (dgs_cons (dg_name 2 (by decide) sc_is_book.nd) (dgs_cons (dg_name 3 (by decide) sc_is_book.nd) (dgs_cons (dg_name 4 (by decide) sc_is_book.nd) (dgs_cons (dg_name 5 (by decide) sc_is_book.nd) dgs_nil)))))))
    (dss_cons (ds_if (PW.pt (dw_or (dt_not (dt_val (de_isi kit_isTup (by rfl) T.m_isinstance (by decide +kernel) (by rfl) T.m_tuple (by decide +kernel) (dv 1)))) (dw_or (dt_not (dt_chain op_le (lift_iCmp (fun i j => decide (i ≤ j))) op_le (lift_iCmp (fun i j => decide (i ≤ j))) de_int (de_callB call_len lift_len (by rfl) T.m_len (by decide +kernel) (da_cons (dv 1) da_nil)) (de_gint (by rfl) T.c_MOST_NAMES))) (dw_or1 (dt_not (dt_val (de_callB (cr_all rfl) lift_all (by rfl) T.m_all (by decide +kernel) (da_cons (de_lc (own := [("one", 6)]) rfl sc_is_book.nd (ic_tup (dv 1)) (blkOk_by (own := [("one", 6)]) (N := N_is_book) (sc := defScope s_is_book) (by decide +kernel)) (fun _ _ _ _ _ => (dg_name 6 (by decide) sc_is_book.nd)) (fun _ _ _ _ _ => dts_nil) (fun _ _ _ _ _ => (dcall O_is_name (by exact hr.mono (by decide)) (by rfl) (da_cons (dv 6) da_nil)))) da_nil)))))))) (dss_one (ds_ret de_bl)) dss_nil)
    (dss_cons (ds_if (PW.pt (dw_or (dt_not (dt_val (dcall O_is_integer (by exact hr.mono (by decide)) (by rfl) (da_cons (dv 2) da_nil)))) (dw_or (dt_not (dt_chain op_le (lift_iCmp (fun i j => decide (i ≤ j))) op_le (lift_iCmp (fun i j => decide (i ≤ j))) (de_gint (by rfl) T.c_FIRST_YEAR) (dv 2) (de_gint (by rfl) T.c_LAST_YEAR))) (dw_or1 (dt_not (dt_val (dcall O_is_title (by exact hr.mono (by decide)) (by rfl) (da_cons (dv 3) da_nil)))))))) (dss_one (ds_ret de_bl)) dss_nil)
    (dss_cons (ds_if (PW.pt (dw_and (dt_cmp op_notN lift_notN (dv 4) de_non (nomark _)) (dw_and1 (dt_not (dt_val (dcall O_is_family (by exact hr.mono (by decide)) (by rfl) (da_cons (dv 4) da_nil))))))) (dss_one (ds_ret de_bl)) dss_nil)
    (dss_one (ds_ret (de_or (de_cmp op_isN lift_isN (dv 5) de_non (nomark _)) (de_one (de_and (dcall O_is_integer (by exact hr.mono (by decide)) (by rfl) (da_cons (dv 5) da_nil)) (de_one (de_chain op_le (lift_iCmp (fun i j => decide (i ≤ j))) op_le (lift_iCmp (fun i j => decide (i ≤ j))) de_int (dv 5) (de_gint (by rfl) T.c_LAST_VOLUME)))))))))))))
end
end Ib
set_option Elab.async false
set_option linter.all false
set_option autoImplicit false
set_option maxRecDepth 100000
set_option maxHeartbeats 4000000
/-! IbM1: lists of books, shapes, letters, cuts, keys. -/
namespace Ib
open PySem PySem.Spec PyProof.Rows L2 TL
variable [Tabl]
/-- none comes twice -/
noncomputable def ndB (xs : List D) : Bool := @decide _ (Classical.propDecidable xs.Nodup)
theorem ndB_iff (xs : List D) : ndB xs = true ↔ xs.Nodup := by
  unfold ndB
  exact @decide_eq_true_iff _ (Classical.propDecidable xs.Nodup)
noncomputable def isList : D → Bool
  | .tup bs => bs.all isBook && ndB bs
  | _ => false
/-! ### books, told apart -/
structure Bk where
  names : List (Cs × Cs)
  year : Int
  title : Cs
  place : Option Cs
  volume : Option Int
def nmD (n : Cs × Cs) : D := .tup [.str n.1, .str n.2]
def opS : Option Cs → D
  | none => .non
  | some l => .str l
def opI : Option Int → D
  | none => .non
  | some l => .int l
def Bk.toD (b : Bk) : D := .tup [.tup (b.names.map nmD), .int b.year, .str b.title, opS b.place, opI b.volume]
structure Bk.Ok (b : Bk) : Prop where
  n1 : 1 ≤ b.names.length
  n3 : b.names.length ≤ 3
  fam : ∀ n ∈ b.names, isFamL n.1 = true ∧ isGivL n.2 = true
  yr : 1000 ≤ b.year ∧ b.year ≤ 2999
  ti : isTitL b.title = true
  pl : ∀ p, b.place = some p → isFamL p = true
  vo : ∀ v, b.volume = some v → 1 ≤ v ∧ v ≤ 999
theorem isNam_of {x : D} (h : isNam x = true) : ∃ n : Cs × Cs, x = nmD n ∧ isFamL n.1 = true ∧ isGivL n.2 = true := by
  unfold isNam at h
  split at h
  · rename_i a b
    rw [Bool.and_eq_true] at h
    cases a with
    | str f =>
      cases b with
      | str g => exact ⟨(f, g), rfl, h.1, h.2⟩
      | _ => exact absurd h.2 (by simp [isGiv])
    | _ => exact absurd h.1 (by simp [isFam])
  · cases h
theorem isNams_of {xs : List D} (h : xs.all isNam = true) : ∃ ns : List (Cs × Cs), xs = ns.map nmD ∧ ∀ n ∈ ns, isFamL n.1 = true ∧ isGivL n.2 = true := by
  induction xs with
  | nil => exact ⟨[], rfl, fun n h => nomatch h⟩
  | cons x r ih =>
    rw [List.all_cons, Bool.and_eq_true] at h
    obtain ⟨n, rfl, h1⟩ := isNam_of h.1
    obtain ⟨ns, rfl, h2⟩ := ih h.2
    exact ⟨n :: ns, rfl, fun m hm => by
      rcases List.mem_cons.mp hm with rfl | hm
      · exact h1
      · exact h2 m hm⟩
theorem isBook_of {x : D} (h : isBook x = true) : ∃ b : Bk, x = b.toD ∧ b.Ok := by
  unfold isBook at h
  split at h
  · rename_i names year title place volume
    simp only [Bool.and_eq_true, Bool.or_eq_true] at h
    obtain ⟨h1, h2, h3, h4, h5⟩ := h
    cases names with
    | tup ns =>
      simp only [isNams, Bool.and_eq_true, decide_eq_true_eq] at h1
      obtain ⟨ns, rfl, hn⟩ := isNams_of h1.2
      cases year with
      | int y =>
        simp only [btw, Bool.and_eq_true, decide_eq_true_eq] at h2
        cases title with
        | str t =>
          have hp : ∃ p : Option Cs, place = opS p ∧ ∀ q, p = some q → isFamL q = true := by
            cases place with
            | non => exact ⟨none, rfl, fun q z => nomatch z⟩
            | str l => exact ⟨some l, rfl, fun q z => by cases z; exact h4.resolve_left (by simp [isNon])⟩
            | _ => simp [isNon, isFam] at h4
          have hv : ∃ p : Option Int, volume = opI p ∧ ∀ q, p = some q → 1 ≤ q ∧ q ≤ 999 := by
            cases volume with
            | non => exact ⟨none, rfl, fun q z => nomatch z⟩
            | int l => exact ⟨some l, rfl, fun q z => by
                cases z
                have := h5.resolve_left (by simp [isNon])
                simpa [btw] using this⟩
            | _ => simp [isNon, btw] at h5
          obtain ⟨p, rfl, hp⟩ := hp
          obtain ⟨v, rfl, hv⟩ := hv
          exact ⟨⟨ns, y, t, p, v⟩, rfl, by simpa using h1.1.1, by simpa using h1.1.2, hn, h2, h3, hp, hv⟩
        | _ => simp [isTit] at h3
      | _ => simp [btw] at h2
    | _ => simp [isNams] at h1
  · cases h
theorem isBook_toD {b : Bk} (h : b.Ok) : isBook b.toD = true := by
  obtain ⟨h1, h2, h3, h4, h5, h6, h7⟩ := h
  obtain ⟨ns, y, t, p, v⟩ := b
  simp only [Bk.toD, isBook, isNams, btw, isTit, Bool.and_eq_true, Bool.or_eq_true, decide_eq_true_eq, List.length_map]
  refine ⟨⟨⟨h1, h2⟩, ?_⟩, h4, h5, ?_, ?_⟩
  · rw [List.all_map, List.all_eq_true]
    intro n hn
    obtain ⟨a, b⟩ := h3 n hn
    simp [Function.comp, isNam, nmD, isFam, isGiv, a, b]
  · cases p with
    | none => exact .inl rfl
    | some q => exact .inr (h6 q rfl)
  · cases v with
    | none => exact .inl rfl
    | some q =>
      refine .inr ?_
      have := h7 q rfl
      simp [opI, btw, this.1, this.2]
theorem nk_names_depth : ∀ ns : List (Cs × Cs), NestedKey.depthAll (nks (ns.map nmD)) ≤ 1
  | [] => by simp [nks, NestedKey.depthAll]
  | n :: r => by
    have := nk_names_depth r
    simp [nks, nk, nmD, NestedKey.depthAll, NestedKey.depth]
    omega
theorem noB_names : ∀ ns : List (Cs × Cs), noBs (ns.map nmD) = true
  | [] => rfl
  | n :: r => by simp [noBs, noB, nmD, noB_names r]
theorem good_book {x : D} (h : isBook x = true) : goodN x ∧ noB x = true := by
  obtain ⟨b, rfl, _⟩ := isBook_of h
  refine ⟨⟨rfl, ?_⟩, ?_⟩
  · have := nk_names_depth b.names
    have e1 : (nk (opS b.place)).depth = 0 := by cases b.place <;> simp [opS, nk, NestedKey.depth]
    have e2 : (nk (opI b.volume)).depth = 0 := by cases b.volume <;> simp [opI, nk, NestedKey.depth]
    simp only [Bk.toD, nk, nks, NestedKey.depth, NestedKey.depthAll, e1, e2]
    omega
  · have e1 : noB (opS b.place) = true := by cases b.place <;> rfl
    have e2 : noB (opI b.volume) = true := by cases b.volume <;> rfl
    simp [Bk.toD, noB, noBs, noB_names, e1, e2]
theorem noBs_all {xs : List D} (h : ∀ x ∈ xs, noB x = true) : noBs xs = true := by
  induction xs with
  | nil => rfl
  | cons x r ih => simp only [noBs, Bool.and_eq_true]; exact ⟨h x (by simp), ih fun y hy => h y (by simp [hy])⟩
def p_is_list : PSp := fun a R => ∃ x, a = [x] ∧ Sm x ∧ R (.d (.bl (isList x)))
@[simp] theorem e_is_list (x : D) (R : U → Prop) : p_is_list [x] R ↔ Sm x ∧ R (.d (.bl (isList x))) := by simp [p_is_list]
theorem len_is_list (a : List D) (R : U → Prop) (h : p_is_list a R) : a.length = 1 := by
  unfold p_is_list at h
  obtain ⟨x0, rfl, _⟩ := h
  rfl
def ds_is_list : DS :=
    (sSeq (sIf (dOr (dNot (dB (dIsi isTup (dVar 0)))) (dNot (dB (dCB (vOne fAll) (dCons (dLc (icT (dVar 0)) (gN 1) ttYes (dCallP p_is_book (dCons (dVar 1) dNil)) [1]) dNil))))) (sRet (dC (.bl false))) sNext)
    (sRet (d2 (p2 sEq) (dLenD 1 goodN (icT (dVar 0))) (dCB (vOne fLen) (dCons (dVar 0) dNil)))))
theorem sem_is_list (a : List D) (R : U → Prop) (h : p_is_list a R) : ds_is_list { nx := fun _ => R (.d .non), rt := resR R } (slots N_is_list (a.map U.d)) := by
  obtain ⟨x, rfl, hs, h⟩ := h
  cases x with
  | tup bs =>
    simp at hs
    refine guardF (!bs.all isBook) (fun P hP => ?_) (fun hb => ?_) fun hb => ?_
    · refine orT false (!bs.all isBook) (fun P hP => hP) (fun _ P hP => ?_) hP
      refine notT _ (fun P hP => bT _ (fun P hP => ?_) hP) hP
      refine allLc (xs := bs) (ok := fun _ => True) isBook (fun R' h => h) trivial (free1 rfl) (thou hs.1) (fun x hx P hP => ?_) hP
      simp
      exact ⟨hs.2.mem hx, hP _ rfl⟩
    · have hb := nbT hb
      simp only [isList, hb] at h
      exact h
    · have hb := nbF hb
      simp only [isList, hb, Bool.true_and] at h
      refine retV ?_
      simp only [d2, dLenD, icT, dVar]
      have all := List.all_eq_true.mp hb
      refine ⟨trivial, by simp, by omega, fun x hx => (good_book (all x hx)).1, noBs_all fun x hx => (good_book (all x hx)).2, fun n hn => ?_⟩
      simp
      have e : decide ((n : Int) = bs.length) = ndB bs := by
        cases q : ndB bs with
        | true =>
          have := hn.mpr ((ndB_iff bs).mp q)
          exact decide_eq_true (by omega)
        | false =>
          refine decide_eq_false fun z => ?_
          have := (ndB_iff bs).mpr (hn.mp (by omega))
          rw [q] at this
          cases this
      rw [e]
      exact h
  | _ => exact h
/-! ### need_book, need_list where they give their argument back -/
def p_need_book : PSp := fun a R => ∃ x, a = [x] ∧ Sm x ∧ isBook x = true ∧ R (.d x)
def p_need_list : PSp := fun a R => ∃ x, a = [x] ∧ Sm x ∧ isList x = true ∧ R (.d x)
@[simp] theorem e_need_book (x : D) (R : U → Prop) : p_need_book [x] R ↔ Sm x ∧ isBook x = true ∧ R (.d x) := by simp [p_need_book]
@[simp] theorem e_need_list (x : D) (R : U → Prop) : p_need_list [x] R ↔ Sm x ∧ isList x = true ∧ R (.d x) := by simp [p_need_list]
theorem len_need_book (a : List D) (R : U → Prop) (h : p_need_book a R) : a.length = 1 := by
  unfold p_need_book at h
  obtain ⟨x0, rfl, _⟩ := h
  rfl
theorem len_need_list (a : List D) (R : U → Prop) (h : p_need_list a R) : a.length = 1 := by
  unfold p_need_list at h
  obtain ⟨x0, rfl, _⟩ := h
  rfl
def ds_need_book : DS :=
    (sSeq (sIf (dNot (dB (dCallP p_is_book (dCons (dVar 0) dNil)))) sNever sNext)
    (sRet (dVar 0)))

def ds_need_list : DS :=
    (sSeq (sIf (dNot (dB (dCallP p_is_list (dCons (dVar 0) dNil)))) sNever sNext)
    (sRet (dVar 0)))
theorem sem_need_book (a : List D) (R : U → Prop) (h : p_need_book a R) : ds_need_book { nx := fun _ => R (.d .non), rt := resR R } (slots N_need_book (a.map U.d)) := by
  obtain ⟨x, rfl, hs, hb, h⟩ := h
  simp [ds_need_book, hb]
  exact ⟨hs, h⟩
theorem sem_need_list (a : List D) (R : U → Prop) (h : p_need_list a R) : ds_need_list { nx := fun _ => R (.d .non), rt := resR R } (slots N_need_list (a.map U.d)) := by
  obtain ⟨x, rfl, hs, hb, h⟩ := h
  simp [ds_need_list, hb]
  exact ⟨hs, h⟩
/-! ### shapes -/
structure Shp where
  n : Nat
  p : Bool
  v : Bool
def b01 (b : Bool) : Int := if b then 1 else 0
def Shp.toD (s : Shp) : D := .tup [.int s.n, .int (b01 s.p), .int (b01 s.v)]
def Bk.shp (b : Bk) : Shp := ⟨b.names.length, b.place.isSome, b.volume.isSome⟩
def p_shape_of : PSp := fun a R => ∃ b : Bk, a = [b.toD] ∧ Sm b.toD ∧ b.Ok ∧ R (.d b.shp.toD)
theorem Bk.inj {a b : Bk} (h : a.toD = b.toD) : a = b := by
  obtain ⟨n1, y1, t1, p1, v1⟩ := a
  obtain ⟨n2, y2, t2, p2, v2⟩ := b
  simp only [Bk.toD, D.tup.injEq, List.cons.injEq, D.int.injEq, D.str.injEq, and_true] at h
  obtain ⟨h1, h2, h3, h4, h5⟩ := h
  have e1 : n1 = n2 := by
    clear h4 h5 h2 h3
    induction n1 generalizing n2 with
    | nil => cases n2 with | nil => rfl | cons _ _ => simp at h1
    | cons x r ih =>
      cases n2 with
      | nil => simp at h1
      | cons y s =>
        simp only [List.map_cons, List.cons.injEq, nmD, D.tup.injEq, D.str.injEq, and_true] at h1
        rw [ih s h1.2, Prod.ext h1.1.1 h1.1.2]
  have e4 : p1 = p2 := by cases p1 <;> cases p2 <;> simp [opS] at h4 <;> first | rfl | rw [h4]
  have e5 : v1 = v2 := by cases v1 <;> cases v2 <;> simp [opI] at h5 <;> first | rfl | rw [h5]
  subst e1 h2 h3 e4 e5
  rfl
@[simp] theorem e_shape_of (b : Bk) (R : U → Prop) : p_shape_of [b.toD] R ↔ Sm b.toD ∧ b.Ok ∧ R (.d b.shp.toD) := by
  constructor
  · rintro ⟨b', e, h⟩
    have e : b.toD = b'.toD := by simpa using e
    rw [Bk.inj e]
    exact h
  · exact fun h => ⟨b, rfl, h⟩
theorem len_shape_of (a : List D) (R : U → Prop) (h : p_shape_of a R) : a.length = 1 := by
  unfold p_shape_of at h
  obtain ⟨x0, rfl, _⟩ := h
  rfl
def ds_shape_of : DS :=
    (sSeq (sAsg (dCallP p_need_book (dCons (dVar 0) dNil)) (gT 5 (gsCons (gN 1) (gsCons (gN 2) (gsCons (gN 2) (gsCons (gN 3) (gsCons (gN 4) gsNil)))))))
    (sRet (dTup (dCons (dCB (vOne fLen) (dCons (dVar 1) dNil)) (dCons (dIf (dB (d2 (p2 nIs) (dVar 3) (dC .non))) (dC (.int 0)) (dC (.int 1))) (dCons (dIf (dB (d2 (p2 nIs) (dVar 4) (dC .non))) (dC (.int 0)) (dC (.int 1))) dNil))))))
theorem sem_shape_of (a : List D) (R : U → Prop) (h : p_shape_of a R) : ds_shape_of { nx := fun _ => R (.d .non), rt := resR R } (slots N_shape_of (a.map U.d)) := by
  obtain ⟨b, rfl, hs, hb, h⟩ := h
  have hk := isBook_toD hb
  obtain ⟨ns, y, t, p, v⟩ := b
  simp [ds_shape_of]
  refine ⟨hs, hk, ?_⟩
  cases p <;> cases v <;> simp [Bk.toD, opS, opI, Bk.shp, Shp.toD, b01] at h ⊢ <;> exact ⟨by decide, h⟩
section
variable {P : Program} {w : World} {K : PySem.W.Frag} {mg : Str → Option Value} {base : Heap}
theorem ok_is_list (T : Txt K mg) (F : Df K mg "is_list" s_is_list) (O_is_book : Ok P w K mg base 4 "is_book" ["value"] (spP K p_is_book)) : Ok P w K mg base 5 "is_list" ["value"] (spP K p_is_list) := by
  obtain ⟨f, fd, F, g⟩ := F
  refine ⟨f, fd, fnP F sc_is_list (fun a R h => len_is_list a R h) (by decide) (ds := ds_is_list) (fun cdv A outer s H E hr => ?_) sem_is_list, g, F.kp, F.binds fun _ _ _ _ _ _ us hl => match us, hl with | [_], _ => rfl⟩
  exact (dss_cons (ds_if (PW.pt (dw_or (dt_not (dt_val (de_isi kit_isTup (by rfl) T.m_isinstance (by decide +kernel) (by rfl) T.m_tuple (by decide +kernel) (dv 0)))) (dw_or1 (dt_not (dt_val (de_callB (cr_all rfl) lift_all (by rfl) T.m_all (by decide +kernel) (da_cons (de_lc (own := [("book", 1)]) rfl sc_is_list.nd (ic_tup (dv 0)) (blkOk_by (own := [("book", 1)]) (N := N_is_list) (sc := defScope s_is_list) (by decide +kernel)) (fun _ _ _ _ _ => (dg_name 1 (by decide) sc_is_list.nd)) (fun _ _ _ _ _ => dts_nil) (fun _ _ _ _ _ => (dcall O_is_book (by exact hr.mono (by decide)) (by rfl) (da_cons (dv 1) da_nil)))) da_nil))))))) (dss_one (ds_ret de_bl)) dss_nil)
    (dss_one (ds_ret (de_cmp op_eq lift_eq (de_lenT hr.units (by rfl) T.m_len rfl sc_is_list.nd (ic_tup (dv 0)) (blkOk_by (own := [("book", 1)]) (N := N_is_list) (sc := defScope s_is_list) (by decide +kernel)) (fun _ _ _ _ _ => pg_name (i := 1) sc_is_list.nd rfl (Or.inl rfl)) (fun _ _ _ _ _ => pv 1)) (de_callB call_len lift_len (by rfl) T.m_len (by decide +kernel) (da_cons (dv 0) da_nil)) (nomark _)))))

theorem ok_need_book (T : Txt K mg) (F : Df K mg "need_book" s_need_book) (O_is_book : Ok P w K mg base 4 "is_book" ["value"] (spP K p_is_book)) : Ok P w K mg base 5 "need_book" ["value"] (spP K p_need_book) := by
  obtain ⟨f, fd, F, g⟩ := F
  refine ⟨f, fd, fnP F sc_need_book (fun a R h => len_need_book a R h) (by decide) (ds := ds_need_book) (fun cdv A outer s H E hr => ?_) sem_need_book, g, F.kp, F.binds fun _ _ _ _ _ _ us hl => match us, hl with | [_], _ => rfl⟩
  exact (dss_cons (ds_if (dt_not (dt_val (dcall O_is_book (by exact hr.mono (by decide)) (by rfl) (da_cons (dv 0) da_nil)))) (dss_one ds_never) dss_nil)
    (dss_one (ds_ret (dv 0))))

theorem ok_need_list (T : Txt K mg) (F : Df K mg "need_list" s_need_list) (O_is_list : Ok P w K mg base 5 "is_list" ["value"] (spP K p_is_list)) : Ok P w K mg base 6 "need_list" ["value"] (spP K p_need_list) := by
  obtain ⟨f, fd, F, g⟩ := F
  refine ⟨f, fd, fnP F sc_need_list (fun a R h => len_need_list a R h) (by decide) (ds := ds_need_list) (fun cdv A outer s H E hr => ?_) sem_need_list, g, F.kp, F.binds fun _ _ _ _ _ _ us hl => match us, hl with | [_], _ => rfl⟩
  exact (dss_cons (ds_if (dt_not (dt_val (dcall O_is_list (by exact hr.mono (by decide)) (by rfl) (da_cons (dv 0) da_nil)))) (dss_one ds_never) dss_nil)
    (dss_one (ds_ret (dv 0))))

theorem ok_shape_of (T : Txt K mg) (F : Df K mg "shape_of" s_shape_of) (O_need_book : Ok P w K mg base 5 "need_book" ["value"] (spP K p_need_book)) : Ok P w K mg base 6 "shape_of" ["book"] (spP K p_shape_of) := by
  obtain ⟨f, fd, F, g⟩ := F
  refine ⟨f, fd, fnP F sc_shape_of (fun a R h => len_shape_of a R h) (by decide) (ds := ds_shape_of) (fun cdv A outer s H E hr => ?_) sem_shape_of, g, F.kp, F.binds fun _ _ _ _ _ _ us hl => match us, hl with | [_], _ => rfl⟩
  exact (dss_cons (ds_asg (dcall O_need_book (by exact hr.mono (by decide)) (by rfl) (da_cons (dv 0) da_nil)) (dg_tup rfl (dgs_cons (dg_name 1 (by decide) sc_shape_of.nd) (dgs_cons (dg_name 2 (by decide) sc_shape_of.nd) (dgs_cons (dg_name 2 (by decide) sc_shape_of.nd) (dgs_cons (dg_name 3 (by decide) sc_shape_of.nd) (dgs_cons (dg_name 4 (by decide) sc_shape_of.nd) dgs_nil)))))))
    (dss_one (ds_ret (de_tup (da_cons (de_callB call_len lift_len (by rfl) T.m_len (by decide +kernel) (da_cons (dv 1) da_nil)) (da_cons (de_ifExp (dt_cmp op_isN lift_isN (dv 3) de_non (nomark _)) de_int de_int) (da_cons (de_ifExp (dt_cmp op_isN lift_isN (dv 4) de_non (nomark _)) de_int de_int) da_nil)))))))
end
end Ib
set_option Elab.async false
set_option linter.all false
set_option autoImplicit false
set_option maxRecDepth 100000
set_option maxHeartbeats 4000000
/-! IbM2: letters, cuts, keys. -/
namespace Ib
open PySem PySem.Spec PyProof.Rows L2 TL
variable [Tabl]
theorem lowC_eq {l : Cs} (h : ∀ c ∈ l, c < 128) : lowC l = l.map PyProof.Rows.lo1 := by
  unfold lowC tlS
  rw [PyProof.Rows.lower_ascii (x := S l) (fun c hc => h c (by simpa using hc))]
  simp
theorem upC_eq {l : Cs} (h : ∀ c ∈ l, c < 128) : upC l = l.map PyProof.Rows.up1 := by
  unfold upC tlS
  rw [PyProof.Rows.upper_ascii (x := S l) (fun c hc => h c (by simpa using hc))]
  simp
theorem ifB_and {x y : Bool} {P : Bool → Prop} (h : P (x && y)) : ifB x (P y) (P false) := by cases x <;> exact h
def isLetL (l : Cs) : Bool := (decide (1 ≤ l.length) && decide (l.length ≤ 2)) && allOf l SMALL
def isLet : D → Bool
  | .str l => isLetL l
  | _ => false
def okLets (ts : List Cs) : Bool := decide (ts.length ≤ 40) && (ts.all isLetL && (decide ts.Nodup && SMALL.all fun c => decide ([c] ∈ ts)))
def isLets : D → Bool
  | .tup ls => (match strsOf ls with
    | some ts => okLets ts
    | none => false)
  | _ => false
def p_is_letter : PSp := fun a R => ∃ x, a = [x] ∧ Sm x ∧ R (.d (.bl (isLet x)))
@[simp] theorem e_is_letter (x : D) (R : U → Prop) : p_is_letter [x] R ↔ Sm x ∧ R (.d (.bl (isLet x))) := by simp [p_is_letter]
theorem len_is_letter (a : List D) (R : U → Prop) (h : p_is_letter a R) : a.length = 1 := by
  unfold p_is_letter at h
  obtain ⟨x0, rfl, _⟩ := h
  rfl
def ds_is_letter : DS :=
    (sRet (dAndV (dIsi isStr (dVar 0)) (dAndV (dChain (p2 (iCmp fun i j => decide (i ≤ j))) (p2 (iCmp fun i j => decide (i ≤ j))) (dC (.int 1)) (dCB (vOne fLen) (dCons (dVar 0) dNil)) (dC (.int 2))) (dCallP p_are_all_of (dCons (dVar 0) (dCons (dC (.str k_abcdefghijklmnopqrst)) dNil))))))
theorem sem_is_letter (a : List D) (R : U → Prop) (h : p_is_letter a R) : ds_is_letter { nx := fun _ => R (.d .non), rt := resR R } (slots N_is_letter (a.map U.d)) := by
  obtain ⟨x, rfl, hs, h⟩ := h
  cases x with
  | str l =>
    simp only [Sm_str] at hs
    refine retV ?_
    refine andV true (isLetL l) (fun P hP => hP) (fun _ P hP => ?_) (by exact h)
    refine andV (decide (1 ≤ l.length) && decide (l.length ≤ 2)) (allOf l SMALL) (fun P hP => ?_) (fun _ P hP => ?_) (by exact hP)
    · simp
      refine ⟨thou hs, ifB_and (P := fun b => P (.d (.bl b)) _) ?_⟩
      rw [show decide ((1 : Int) ≤ l.length) = decide (1 ≤ l.length) from decide_eq_decide.mpr (by omega), show decide ((l.length : Int) ≤ 2) = decide (l.length ≤ 2) from decide_eq_decide.mpr (by omega)]
      exact hP
    · simp
      exact ⟨hs, hP⟩
  | _ => exact h
theorem lets_all : ∀ {ls : List D}, ls.all isLet = (match strsOf ls with
    | some ts => ts.all isLetL
    | none => false)
  | [] => rfl
  | x :: r => by
    have ih := lets_all (ls := r)
    cases x with
    | str l =>
      rw [List.all_cons, ih]
      cases e : strsOf r with
      | none => simp [strsOf, e]
      | some ts => simp [strsOf, e, isLet]
    | _ => simp [isLet, strsOf]
theorem strsOf_eq : ∀ {ls : List D} {ts : List Cs}, strsOf ls = some ts → ls = ts.map D.str
  | [], _, h => by cases h; rfl
  | x :: r, ts, h => by
    cases x with
    | str l =>
      cases e : strsOf r with
      | none => simp [strsOf, e] at h
      | some us =>
        simp [strsOf, e] at h
        subst h
        rw [strsOf_eq e]
        rfl
    | _ => cases h
theorem nodup_strs (ts : List Cs) : (ts.map D.str).Nodup ↔ ts.Nodup := by
  induction ts with
  | nil => simp
  | cons x r ih =>
    rw [List.map_cons, List.nodup_cons, List.nodup_cons, ih]
    simp [List.mem_map]
theorem noBs_strs (ts : List Cs) : noBs (ts.map D.str) = true := by
  induction ts with
  | nil => rfl
  | cons x r ih => simp [noBs, noB, ih]
theorem isLets_strs (ts : List Cs) : isLets (.tup (ts.map D.str)) = okLets ts := by simp [isLets, strsOf_map]
theorem isLets_no {ls : List D} (h : strsOf ls = none) : isLets (.tup ls) = false := by simp [isLets, h]
def p_is_letters : PSp := fun a R => ∃ x, a = [x] ∧ Sm x ∧ R (.d (.bl (isLets x)))
@[simp] theorem e_is_letters (x : D) (R : U → Prop) : p_is_letters [x] R ↔ Sm x ∧ R (.d (.bl (isLets x))) := by simp [p_is_letters]
theorem len_is_letters (a : List D) (R : U → Prop) (h : p_is_letters a R) : a.length = 1 := by
  unfold p_is_letters at h
  obtain ⟨x0, rfl, _⟩ := h
  rfl
def ds_is_letters : DS :=
    (sSeq (sIf (dOr (dNot (dB (dIsi isTup (dVar 0)))) (dOr (dB (d2 (p2 (iCmp fun i j => decide (j < i))) (dCB (vOne fLen) (dCons (dVar 0) dNil)) (dC (.int 40)))) (dNot (dB (dCB (vOne fAll) (dCons (dLc (icT (dVar 0)) (gN 2) ttYes (dCallP p_is_letter (dCons (dVar 2) dNil)) [2]) dNil)))))) (sRet (dC (.bl false))) sNext)
    (sSeq (sIf (dB (d2 (p2 sNe) (dLenD 2 (fun d => isStr d = true) (icT (dVar 0))) (dCB (vOne fLen) (dCons (dVar 0) dNil)))) (sRet (dC (.bl false))) sNext)
    (sRet (dCB (vOne fAll) (dCons (dLc (icS (dC (.str k_abcdefghijklmnopqrst))) (gN 1) ttYes (d2 (vInS false) (dVar 1) (dVar 0)) [1]) dNil)))))
theorem sem_is_letters (a : List D) (R : U → Prop) (h : p_is_letters a R) : ds_is_letters { nx := fun _ => R (.d .non), rt := resR R } (slots N_is_letters (a.map U.d)) := by
  obtain ⟨x, rfl, hs, h⟩ := h
  cases x with
  | tup ls =>
    simp at hs
    refine guardF (!(decide (ls.length ≤ 40) && ls.all isLet)) (fun P hP => ?_) (fun hb => ?_) fun hb => ?_
    · refine orT false (!(decide (ls.length ≤ 40) && ls.all isLet)) (fun P hP => hP) (fun _ P hP => ?_) hP
      refine orT (!decide (ls.length ≤ 40)) (!ls.all isLet) (fun P hP => ?_) (fun _ P hP => ?_) (by rw [Bool.not_and] at hP; exact hP)
      · simp
        rw [show decide ((40 : Int) < ls.length) = !decide (ls.length ≤ 40) by rw [← decide_not]; exact decide_eq_decide.mpr (by omega)]
        exact hP
      · refine notT _ (fun P hP => bT _ (fun P hP => ?_) hP) hP
        refine allLc (xs := ls) (ok := fun _ => True) isLet (fun R' h => h) trivial (free1 rfl) (thou hs.1) (fun x hx P hP => ?_) hP
        simp
        exact ⟨hs.2.mem hx, hP _ rfl⟩
    · have hb := nbT hb
      rw [lets_all] at hb
      cases e : strsOf ls with
      | none =>
        rw [isLets_no e] at h
        exact h
      | some ts =>
        rw [e] at hb
        have e2 := strsOf_eq e
        subst e2
        rw [isLets_strs] at h
        rw [List.length_map] at hb
        have : okLets ts = false := by
          unfold okLets
          cases h1 : decide (ts.length ≤ 40) with
          | false => rfl
          | true =>
            rw [h1, Bool.true_and] at hb
            have hb : ts.all isLetL = false := hb
            rw [hb]
            rfl
        rw [this] at h
        exact h
    · have hb := nbF hb
      rw [lets_all] at hb
      cases e : strsOf ls with
      | none =>
        rw [e] at hb
        simp at hb
      | some ts =>
        rw [e] at hb
        have e2 := strsOf_eq e
        subst e2
        rw [isLets_strs] at h
        rw [List.length_map] at hb hs
        obtain ⟨h1, h2⟩ := Bool.and_eq_true_iff.mp hb
        have h2 : ts.all isLetL = true := h2
        simp only [okLets, h1, h2, Bool.true_and] at h
        refine guardF (!decide ts.Nodup) (fun P hP => ?_) (fun hb => ?_) fun hb => ?_
        · simp only [dB, d2, dLenD, icT, dVar]
          refine ⟨trivial, by simp, by rw [List.length_map]; omega, fun x hx => ?_, noBs_strs ts, fun n hn => ?_⟩
          · obtain ⟨l, _, rfl⟩ := List.mem_map.mp hx
            rfl
          · rw [List.length_map, nodup_strs] at hn
            simp
            have e : (!decide ((n : Int) = ts.length)) = !decide ts.Nodup := by
              rw [show decide ((n : Int) = ts.length) = decide ts.Nodup from decide_eq_decide.mpr (by rw [← hn]; omega)]
            rw [e]
            exact hP
        · rw [nbT hb] at h
          exact h
        · rw [nbF hb, Bool.true_and] at h
          refine retV ?_
          refine allLc (xs := signs1 SMALL) (ok := fun _ => True) (fun x => match x with
            | .str l => decide (l ∈ ts)
            | _ => false) (fun R' h => h) trivial (free1 rfl) (by rw [signs1_len]; exact thou (by decide)) (fun x hx P hP => ?_) ?_
          · obtain ⟨c, _, rfl⟩ := mem_signs1 hx
            simp [strsOf_map]
            exact hP _ rfl
          · have e : ((signs1 SMALL).all fun x => match x with
              | .str l => decide (l ∈ ts)
              | _ => false) = SMALL.all fun c => decide ([c] ∈ ts) := by
              unfold signs1
              rw [List.all_map]
              rfl
            rw [e]
            exact h
  | _ => exact h
def p_need_letters : PSp := fun a R => ∃ x, a = [x] ∧ Sm x ∧ isLets x = true ∧ R (.d x)
@[simp] theorem e_need_letters (x : D) (R : U → Prop) : p_need_letters [x] R ↔ Sm x ∧ isLets x = true ∧ R (.d x) := by simp [p_need_letters]
theorem len_need_letters (a : List D) (R : U → Prop) (h : p_need_letters a R) : a.length = 1 := by
  unfold p_need_letters at h
  obtain ⟨x0, rfl, _⟩ := h
  rfl
def ds_need_letters : DS :=
    (sSeq (sIf (dNot (dB (dCallP p_is_letters (dCons (dVar 0) dNil)))) sNever sNext)
    (sRet (dVar 0)))
theorem sem_need_letters (a : List D) (R : U → Prop) (h : p_need_letters a R) : ds_need_letters { nx := fun _ => R (.d .non), rt := resR R } (slots N_need_letters (a.map U.d)) := by
  obtain ⟨x, rfl, hs, hb, h⟩ := h
  simp [ds_need_letters, hb]
  exact ⟨hs, h⟩
/-! ### cuts -/
/-- the letter at the head of a word -/
def headL (ts : List Cs) (w : Cs) : Cs := if w.take 2 ∈ ts then w.take 2 else w.take 1
def ixOf (ts : List Cs) (x : Cs) : Nat := (fstIx x ts).getD 0
def cutF (ts : List Cs) : Nat → Cs → List Nat
  | 0, _ => []
  | _ + 1, [] => []
  | n + 1, c :: r => ixOf ts (headL ts (c :: r)) :: cutF ts n ((c :: r).drop (headL ts (c :: r)).length)
def cutL (ts : List Cs) (w : Cs) : List Nat := cutF ts w.length w
theorem cutF_more {ts : List Cs} : ∀ {n : Nat} {w : Cs}, w.length ≤ n → cutF ts n w = cutF ts w.length w := by
  intro n
  induction n using Nat.strongRecOn with
  | _ n ih =>
    intro w hw
    cases w with
    | nil => cases n <;> rfl
    | cons c r =>
      cases n with
      | zero => simp at hw
      | succ n =>
        show _ :: cutF ts n _ = _ :: cutF ts r.length _
        have hl : 1 ≤ (headL ts (c :: r)).length := by
          unfold headL
          split <;> simp <;> omega
        have hd : ((c :: r).drop (headL ts (c :: r)).length).length ≤ r.length := by simp; omega
        simp at hw
        rw [ih n (by omega) (by omega)]
        by_cases hn : r.length = n
        · rw [hn] at hd ⊢
          rw [ih n (by omega) hd]
        · rw [ih r.length (by omega) hd]
theorem cutL_cons {ts : List Cs} {w : Cs} (h : w ≠ []) : cutL ts w = ixOf ts (headL ts w) :: cutL ts (w.drop (headL ts w).length) := by
  cases w with
  | nil => exact absurd rfl h
  | cons c r =>
    unfold cutL
    show _ :: cutF ts r.length _ = _
    have hl : 1 ≤ (headL ts (c :: r)).length := by
      unfold headL
      split <;> simp <;> omega
    rw [cutF_more (by simp; omega)]
theorem fstIx_mem {x : Cs} : ∀ {ts : List Cs}, x ∈ ts → ∃ j, fstIx x ts = some j
  | y :: r, h => by
    unfold fstIx
    by_cases e : y = x
    · exact ⟨0, if_pos e⟩
    · rw [if_neg e]
      obtain ⟨j, hj⟩ := fstIx_mem ((List.mem_cons.mp h).resolve_left fun z => e z.symm)
      exact ⟨j + 1, by rw [hj]; rfl⟩
theorem ixOf_mem {x : Cs} {ts : List Cs} (h : x ∈ ts) : fstIx x ts = some (ixOf ts x) := by
  obtain ⟨j, hj⟩ := fstIx_mem h
  unfold ixOf
  rw [hj]
  rfl
theorem headL_mem {ts : List Cs} {w : Cs} (h : w ≠ []) (hl : ∀ c ∈ w, [c] ∈ ts) : headL ts w ∈ ts := by
  unfold headL
  split
  · assumption
  · cases w with
    | nil => exact absurd rfl h
    | cons c r => exact hl c (by simp)
def natsD (l : List Nat) : List D := l.map fun n => .int (n : Nat)
def p_cut : PSp := fun a R => ∃ w ts, a = [.str w, .tup (ts.map D.str)] ∧ w.length ≤ 1000 ∧ (lowC w).length ≤ 1000 ∧ (∀ c ∈ lowC w, [c] ∈ ts) ∧ R (.d (.tup (natsD (cutL ts (lowC w)))))
theorem strs_inj : ∀ {a b : List Cs}, a.map D.str = b.map D.str → a = b
  | [], [], _ => rfl
  | [], _ :: _, h => by simp at h
  | _ :: _, [], h => by simp at h
  | x :: a, y :: b, h => by
    simp only [List.map_cons, List.cons.injEq, D.str.injEq] at h
    rw [h.1, strs_inj h.2]
@[simp] theorem e_cut (w : Cs) (ts : List Cs) (R : U → Prop) : p_cut [.str w, .tup (ts.map D.str)] R ↔ w.length ≤ 1000 ∧ (lowC w).length ≤ 1000 ∧ (∀ c ∈ lowC w, [c] ∈ ts) ∧ R (.d (.tup (natsD (cutL ts (lowC w))))) := by
  constructor
  · rintro ⟨w', ts', e, h⟩
    simp only [List.cons.injEq, D.str.injEq, D.tup.injEq, and_true] at e
    obtain ⟨rfl, e⟩ := e
    rw [strs_inj e]
    exact h
  · exact fun h => ⟨w, ts, rfl, h⟩
theorem len_cut (a : List D) (R : U → Prop) (h : p_cut a R) : a.length = 2 := by
  unfold p_cut at h
  obtain ⟨x0, x1, rfl, _⟩ := h
  rfl
def ds_cut : DS :=
    (sSeq (sSet (dMS mLower (dVar 0) dNil) 2)
    (sSeq (sSet (dLst dNil) 3)
    (sSeq (sSet (dC (.int 0)) 4)
    (sSeq (sWhile (dB (d2 (p2 (iCmp fun i j => decide (i < j))) (dVar 4) (dCB (vOne fLen) (dCons (dVar 2) dNil)))) (sSeq (sSet (dSl vSlS (dVar 2) (dPart (dVar 4)) (dPart (d2 (p2 (iOp fun i j => i + j)) (dVar 4) (dC (.int 2))))) 5)
    (sSeq (sIf (dB (d2 (vInS true) (dVar 5) (dVar 1))) (sSet (dSl vSlS (dVar 5) dNoP (dPart (dC (.int 1)))) 5) sNext)
    (sSeq (sExpr (dML (mMut fAppend) (dVar 3) (dCons (dIndexT (dVar 1) (dVar 5)) dNil)))
    (sAug 4 (iOp fun a b => a + b) (dCB (vOne fLen) (dCons (dVar 5) dNil)))))))
    (sRet (dCB (vOne fTuple) (dCons (dVar 3) dNil)))))))
theorem sem_cut (a : List D) (R : U → Prop) (h : p_cut a R) : ds_cut { nx := fun _ => R (.d .non), rt := resR R } (slots N_cut (a.map U.d)) := by
  obtain ⟨w, ts, rfl, h1, h2, h3, h⟩ := h
  simp [ds_cut]
  refine ⟨by omega, ?_⟩
  generalize hw : lowC w = s at h h2 h3 ⊢
  refine ⟨fun m δ => ∃ (at_ : Nat) (acc : List Nat) (p : Option U), m = s.length - at_ ∧ at_ ≤ s.length ∧ acc.length ≤ at_ ∧ δ = [some (.d (.str w)), some (.d (.tup (ts.map D.str))), some (.d (.str s)), some (.lst (natsD acc)), some (.d (.int (at_ : Nat))), p] ∧ acc ++ cutL ts (s.drop at_) = cutL ts s, _, ⟨0, [], none, rfl, Nat.zero_le _, Nat.zero_le _, rfl, rfl⟩, ?_⟩
  rintro m δ ⟨at_, acc, p, rfl, ha, hc, rfl, he⟩
  have e2 : cutD s (some (at_ : Int)) (some ((at_ : Int) + 2)) = (s.drop at_).take 2 := by
    have := cutD_mid s at_ (at_ + 2)
    rw [show at_ + 2 - at_ = 2 by omega] at this
    rw [← this]
    rfl
  simp [strsOf_map, e2]
  refine ⟨thou h2, ifB_of (fun e => ?_) fun e => ?_⟩
  · have hlt : at_ < s.length := of_decide_eq_true e
    have ne : s.drop at_ ≠ [] := by
      intro z
      have := congrArg List.length z
      simp at this
      omega
    have hd := headL_mem ne fun c hc => h3 c (List.mem_of_mem_drop hc)
    have hl : 1 ≤ (headL ts (s.drop at_)).length ∧ (headL ts (s.drop at_)).length ≤ s.length - at_ := by
      unfold headL
      split <;> simp <;> omega
    have ecut := cutL_cons (ts := ts) ne
    have hix := ixOf_mem hd
    have szl := sizeLine_eq
    have app : natsD acc ++ [D.int (ixOf ts (headL ts (s.drop at_)) : Nat)] = natsD (acc ++ [ixOf ts (headL ts (s.drop at_))]) := by simp [natsD]
    have len : (natsD acc).length < sizeLine := by simp [natsD]; omega
    have step : acc ++ [ixOf ts (headL ts (s.drop at_))] ++ cutL ts (s.drop (at_ + (headL ts (s.drop at_)).length)) = cutL ts s := by
      rw [← he, ecut, List.append_assoc, List.drop_drop]
      rfl
    refine ⟨thou h2, ifB_of (fun e => ?_) fun e => ?_⟩
    · have hn : (s.drop at_).take 2 ∉ ts := by simpa using e
      have hh : headL ts (s.drop at_) = (s.drop at_).take 1 := if_neg hn
      rw [hh] at hix hl app step
      refine ⟨by omega, ?_⟩
      simp only [List.take_take, Nat.min_eq_left (show 1 ≤ 2 by omega), hix, if_pos len, app]
      simp only [List.length_take, List.length_drop] at hl step
      refine ⟨by omega, _, ?_, at_ + min 1 (s.length - at_), rfl, by omega, _, ?_, ⟨rfl, ?_⟩, ?_⟩
      · omega
      · rw [List.length_append, List.length_singleton]; omega
      · omega
      · exact step
    · have hn : (s.drop at_).take 2 ∈ ts := by simpa using e
      have hh : headL ts (s.drop at_) = (s.drop at_).take 2 := if_pos hn
      rw [hh] at hix hl app step
      simp only [hix, if_pos len, app]
      simp only [List.length_take, List.length_drop] at hl step
      refine ⟨by omega, _, ?_, at_ + min 2 (s.length - at_), rfl, by omega, _, ?_, ⟨rfl, ?_⟩, ?_⟩
      · omega
      · rw [List.length_append, List.length_singleton]; omega
      · omega
      · exact step
  · have e3 : at_ = s.length := by
      have := of_decide_eq_false e
      omega
    subst e3
    rw [List.drop_length] at he
    have : cutL ts [] = [] := rfl
    rw [this, List.append_nil] at he
    rw [he]
    exact h
section
variable {P : Program} {w : World} {K : PySem.W.Frag} {mg : Str → Option Value} {base : Heap}
theorem ok_is_letter (T : Txt K mg) (F : Df K mg "is_letter" s_is_letter) (O_are_all_of : Ok P w K mg base 1 "are_all_of" ["text", "signs"] (spP K p_are_all_of)) : Ok P w K mg base 2 "is_letter" ["value"] (spP K p_is_letter) := by
  obtain ⟨f, fd, F, g⟩ := F
  refine ⟨f, fd, fnP F sc_is_letter (fun a R h => len_is_letter a R h) (by decide) (ds := ds_is_letter) (fun cdv A outer s H E hr => ?_) sem_is_letter, g, F.kp, F.binds fun _ _ _ _ _ _ us hl => match us, hl with | [_], _ => rfl⟩
  exact (dss_one (ds_ret (de_and (de_isi kit_isStr (by rfl) T.m_isinstance (by decide +kernel) (by rfl) T.m_str (by decide +kernel) (dv 0)) (de_and (de_chain op_le (lift_iCmp (fun i j => decide (i ≤ j))) op_le (lift_iCmp (fun i j => decide (i ≤ j))) de_int (de_callB call_len lift_len (by rfl) T.m_len (by decide +kernel) (da_cons (dv 0) da_nil)) (de_gint (by rfl) T.c_MOST_SIGNS)) (de_one (dcall O_are_all_of (by exact hr.mono (by decide)) (by rfl) (da_cons (dv 0) (da_cons (de_gstr (by rfl) T.c_SMALLS) da_nil))))))))

theorem ok_is_letters (T : Txt K mg) (F : Df K mg "is_letters" s_is_letters) (O_is_letter : Ok P w K mg base 2 "is_letter" ["value"] (spP K p_is_letter)) : Ok P w K mg base 3 "is_letters" ["value"] (spP K p_is_letters) := by
  obtain ⟨f, fd, F, g⟩ := F
  refine ⟨f, fd, fnP F sc_is_letters (fun a R h => len_is_letters a R h) (by decide) (ds := ds_is_letters) (fun cdv A outer s H E hr => ?_) sem_is_letters, g, F.kp, F.binds fun _ _ _ _ _ _ us hl => match us, hl with | [_], _ => rfl⟩
  exact (dss_cons (ds_if (PW.pt (dw_or (dt_not (dt_val (de_isi kit_isTup (by rfl) T.m_isinstance (by decide +kernel) (by rfl) T.m_tuple (by decide +kernel) (dv 0)))) (dw_or (dt_cmp op_gt (lift_iCmp (fun i j => decide (j < i))) (de_callB call_len lift_len (by rfl) T.m_len (by decide +kernel) (da_cons (dv 0) da_nil)) (de_gint (by rfl) T.c_MOST_LETTERS) (nomark _)) (dw_or1 (dt_not (dt_val (de_callB (cr_all rfl) lift_all (by rfl) T.m_all (by decide +kernel) (da_cons (de_lc (own := [("one", 2)]) rfl sc_is_letters.nd (ic_tup (dv 0)) (blkOk_by (own := [("one", 2)]) (N := N_is_letters) (sc := defScope s_is_letters) (by decide +kernel)) (fun _ _ _ _ _ => (dg_name 2 (by decide) sc_is_letters.nd)) (fun _ _ _ _ _ => dts_nil) (fun _ _ _ _ _ => (dcall O_is_letter (by exact hr.mono (by decide)) (by rfl) (da_cons (dv 2) da_nil)))) da_nil)))))))) (dss_one (ds_ret de_bl)) dss_nil)
    (dss_cons (ds_if (dt_cmp op_ne lift_ne (de_lenS (by rfl) T.m_len rfl sc_is_letters.nd (ic_tup (dv 0)) (blkOk_by (own := [("one", 2)]) (N := N_is_letters) (sc := defScope s_is_letters) (by decide +kernel)) (fun _ _ _ _ _ => pg_name (i := 2) sc_is_letters.nd rfl (Or.inl rfl)) (fun _ _ _ _ _ => pv 2)) (de_callB call_len lift_len (by rfl) T.m_len (by decide +kernel) (da_cons (dv 0) da_nil)) (nomark _)) (dss_one (ds_ret de_bl)) dss_nil)
    (dss_one (ds_ret (de_callB (cr_all rfl) lift_all (by rfl) T.m_all (by decide +kernel) (da_cons (de_lc (own := [("sign", 1)]) rfl sc_is_letters.nd (ic_str (de_gstr (by rfl) T.c_SMALLS)) (blkOk_by (own := [("sign", 1)]) (N := N_is_letters) (sc := defScope s_is_letters) (by decide +kernel)) (fun _ _ _ _ _ => (dg_name 1 (by decide) sc_is_letters.nd)) (fun _ _ _ _ _ => dts_nil) (fun _ _ _ _ _ => (de_cmp op_in_seq lift_inS (dv 1) (dv 0) (by rfl)))) da_nil))))))

theorem ok_need_letters (T : Txt K mg) (F : Df K mg "need_letters" s_need_letters) (O_is_letters : Ok P w K mg base 3 "is_letters" ["value"] (spP K p_is_letters)) : Ok P w K mg base 4 "need_letters" ["value"] (spP K p_need_letters) := by
  obtain ⟨f, fd, F, g⟩ := F
  refine ⟨f, fd, fnP F sc_need_letters (fun a R h => len_need_letters a R h) (by decide) (ds := ds_need_letters) (fun cdv A outer s H E hr => ?_) sem_need_letters, g, F.kp, F.binds fun _ _ _ _ _ _ us hl => match us, hl with | [_], _ => rfl⟩
  exact (dss_cons (ds_if (dt_not (dt_val (dcall O_is_letters (by exact hr.mono (by decide)) (by rfl) (da_cons (dv 0) da_nil)))) (dss_one ds_never) dss_nil)
    (dss_one (ds_ret (dv 0))))

theorem ok_cut (T : Txt K mg) (F : Df K mg "cut" s_cut) : Ok P w K mg base 1 "cut" ["word", "letters"] (spP K p_cut) := by
  obtain ⟨f, fd, F, g⟩ := F
  refine ⟨f, fd, fnP F sc_cut (fun a R h => len_cut a R h) (by decide) (ds := ds_cut) (fun cdv A outer s H E hr => ?_) sem_cut, g, F.kp, F.binds fun _ _ _ _ _ _ us hl => match us, hl with | [_, _], _ => rfl⟩
  exact (dss_cons (ds_set 2 (by decide) sc_cut.nd (de_ms0 PySem.F.plainAttrs_str PySem.F.slot_str_lower PySem.F.type_str_lower mt_lower lift_lower (dv 0)))
    (dss_cons (ds_set 3 (by decide) sc_cut.nd (de_lst da_nil))
    (dss_cons (ds_set 4 (by decide) sc_cut.nd de_int)
    (dss_cons (ds_while PassesOwn.never (dt_cmp op_lt (lift_iCmp (fun i j => decide (i < j))) (dv 4) (de_callB call_len lift_len (by rfl) T.m_len (by decide +kernel) (da_cons (dv 2) da_nil)) (nomark _)) (dss_cons (ds_set 5 (by decide) sc_cut.nd (de_slice sl_str lift_slS (dv 2) (do_some (dv 4)) (do_some (de_op op_add (lift_iOp fun i j => i + j) (dv 4) (de_gint (by rfl) T.c_MOST_SIGNS)))))
    (dss_cons (ds_if (dt_cmp op_notIn_seq lift_inS (dv 5) (dv 1) (by rfl)) (dss_one (ds_set 5 (by decide) sc_cut.nd (de_slice sl_str lift_slS (dv 5) do_none (do_some de_int)))) dss_nil)
    (dss_cons (ds_expr (de_ml PySem.F.slot_list_append PySem.F.type_list_append mt_append lift_append (dv 3) (da_cons (de_indexT (dv 1) (dv 5)) da_nil)))
    (dss_one (ds_augI 4 (by decide) sc_cut.nd (de_callB call_len lift_len (by rfl) T.m_len (by decide +kernel) (da_cons (dv 5) da_nil))))))))
    (dss_one (ds_ret (de_callTy call_tupleF lift_tuple (by rfl) T.m_tuple (by decide +kernel) (da_cons (dv 3) da_nil))))))))
end
end Ib
set_option Elab.async false
set_option linter.all false
set_option autoImplicit false
set_option maxRecDepth 100000
set_option maxHeartbeats 4000000
/-! IbM3: keys, the order by keys. -/
namespace Ib
open PySem PySem.Spec PyProof.Rows L2 TL
variable [Tabl]
/-- a tuple of a comprehension -/
theorem tupLc {di : DIC} {g : DG} {te : DE} {vs : List Nat} {δ : DEnv} {xs : List D} {ok : DEnv → Prop} {P : U → DEnv → Prop} (f : D → D) (hd : ∀ R' : List D → (DEnv → Prop) → DEnv → Prop, R' xs ok δ → di δ R') (hok : ok δ) (hf : Free δ vs) (hz : xs.length ≤ sizeLine)
    (h : ∀ x ∈ xs, ∀ P : U → DEnv → Prop, (∀ δ5, wipeE δ5 vs = δ → P (.d (f x)) δ5) → g x δ fun δ3 => te δ3 P) (hR : P (.d (.tup (xs.map f))) δ) : dCB (vOne fTuple) (dCons (dLc di g ttYes te vs) dNil) δ P := by
  simp only [dCB, dCons]
  refine dLc_map f hd hok hf hz h ?_
  simp only [dNil, vOne, fTuple, lstU]
  exact hR
/-- a comprehension of texts, joined -/
theorem joinLc {di : DIC} {g : DG} {te : DE} {vs : List Nat} {δ : DEnv} {xs : List D} {ok : DEnv → Prop} {P : U → DEnv → Prop} (f : D → Cs) (hd : ∀ R' : List D → (DEnv → Prop) → DEnv → Prop, R' xs ok δ → di δ R') (hok : ok δ) (hf : Free δ vs) (hz : xs.length ≤ sizeLine)
    (h : ∀ x ∈ xs, ∀ P : U → DEnv → Prop, (∀ δ5, wipeE δ5 vs = δ → P (.d (.str (f x))) δ5) → g x δ fun δ3 => te δ3 P) (hj : ((xs.map f).map (·.length)).sum ≤ 16777216) (hR : P (.d (.str (xs.map f).flatten)) δ) : dMS mJoin (dC (.str [])) (dCons (dLc di g ttYes te vs) dNil) δ P := by
  simp only [dMS, dC, dCons]
  refine ⟨trivial, dLc_map (fun x => .str (f x)) hd hok hf hz h ?_⟩
  simp only [dNil, mJoin, seqU, Option.bind_some]
  rw [show (xs.map fun x => D.str (f x)) = (xs.map f).map D.str by rw [List.map_map]; rfl, strsOf_map]
  exact ⟨hj, hR⟩
/-! ### letters small and large -/
theorem caps_lo : ∀ c ∈ CAPS, PyProof.Rows.lo1 c ∈ SMALL := by decide
theorem small_lo : ∀ c ∈ SMALL, PyProof.Rows.lo1 c = c := by decide
theorem caps_lt : ∀ c ∈ CAPS, c < 128 := by decide
theorem small_lt : ∀ c ∈ SMALL, c < 128 := by decide
theorem allOf_iff {l s : Cs} : allOf l s = true ↔ ∀ c ∈ l, c ∈ s := by
  unfold allOf
  rw [List.all_eq_true]
  simp
theorem low_small {l : Cs} (h : ∀ c ∈ l, c ∈ SMALL) : lowC l = l := by
  rw [lowC_eq fun c hc => small_lt c (h c hc)]
  rw [List.map_congr_left (g := id) fun c hc => small_lo c (h c hc), List.map_id]
theorem low_fam {l : Cs} (h : isFamL l = true) : ∃ c r, l = c :: r ∧ c ∈ CAPS ∧ (∀ d ∈ r, d ∈ SMALL) ∧ lowC l = PyProof.Rows.lo1 c :: r := by
  cases l with
  | nil => cases h
  | cons c r =>
    simp only [isFamL, Bool.and_eq_true, decide_eq_true_eq] at h
    have hr := allOf_iff.mp h.2
    refine ⟨c, r, rfl, h.1, hr, ?_⟩
    rw [lowC_eq fun d hd => by
      rcases List.mem_cons.mp hd with rfl | hd
      · exact caps_lt _ h.1
      · exact small_lt _ (hr _ hd)]
    rw [List.map_cons, List.map_congr_left (g := id) fun c hc => small_lo c (hr c hc), List.map_id]
theorem low_fam_ok {l : Cs} (h : isFamL l = true) : (lowC l).length = l.length ∧ ∀ c ∈ lowC l, c ∈ SMALL := by
  obtain ⟨c, r, rfl, h1, h2, h3⟩ := low_fam h
  rw [h3]
  refine ⟨rfl, fun d hd => ?_⟩
  rcases List.mem_cons.mp hd with rfl | hd
  · exact caps_lo _ h1
  · exact h2 _ hd
theorem title_words {l : Cs} (h : isTitL l = true) : ∀ w ∈ sp1 l, (lowC w).length = w.length ∧ ∀ c ∈ lowC w, c ∈ SMALL := by
  unfold isTitL at h
  obtain ⟨w0, ws, e⟩ := sp1_ne l
  rw [e] at h ⊢
  simp only [Bool.and_eq_true] at h
  intro w hw
  rcases List.mem_cons.mp hw with rfl | hw
  · exact low_fam_ok h.1
  · have := List.all_eq_true.mp h.2 w hw
    simp only [Bool.and_eq_true] at this
    have := allOf_iff.mp this.2
    rw [low_small this]
    exact ⟨rfl, this⟩
/-! ### keys -/
def cutW (ts : List Cs) (w : Cs) : D := .tup (natsD (cutL ts (lowC w)))
def keyP (ts : List Cs) : Option Cs → D
  | none => .tup []
  | some p => .tup [cutW ts p]
def keyV : Option Int → D
  | none => .tup []
  | some v => .tup [.int v]
def keyD (ts : List Cs) (b : Bk) : D := .tup [.tup (b.names.map fun n => .tup [cutW ts n.1, .str n.2]), .int b.year, .tup ((sp1 b.title).map (cutW ts)), keyP ts b.place, keyV b.volume]
structure LetsOk (ts : List Cs) : Prop where
  le : ts.length ≤ 40
  let_ : ∀ t ∈ ts, isLetL t = true
  nd : ts.Nodup
  all : ∀ c ∈ SMALL, [c] ∈ ts
theorem letsOk {ts : List Cs} : okLets ts = true ↔ LetsOk ts := by
  unfold okLets
  simp only [Bool.and_eq_true, decide_eq_true_eq, List.all_eq_true]
  exact ⟨fun ⟨a, b, c, d⟩ => ⟨a, b, c, d⟩, fun ⟨a, b, c, d⟩ => ⟨a, b, c, d⟩⟩
def keyN (ts : List Cs) : D → D
  | .tup [.str f, g] => .tup [cutW ts f, g]
  | _ => .non
def keyX (ts : List Cs) : D → D
  | .str f => cutW ts f
  | _ => .non
def p_key_by : PSp := fun a R => ∃ (b : Bk) (ts : List Cs), a = [b.toD, .tup (ts.map D.str)] ∧ Sm b.toD ∧ b.Ok ∧ LetsOk ts ∧ R (.d (keyD ts b))
@[simp] theorem e_key_by (b : Bk) (ts : List Cs) (R : U → Prop) : p_key_by [b.toD, .tup (ts.map D.str)] R ↔ Sm b.toD ∧ b.Ok ∧ LetsOk ts ∧ R (.d (keyD ts b)) := by
  constructor
  · rintro ⟨b', ts', e, h⟩
    simp only [List.cons.injEq, D.tup.injEq, and_true] at e
    rw [Bk.inj e.1, strs_inj e.2]
    exact h
  · exact fun h => ⟨b, ts, rfl, h⟩
theorem len_key_by (a : List D) (R : U → Prop) (h : p_key_by a R) : a.length = 2 := by
  unfold p_key_by at h
  obtain ⟨x0, x1, rfl, _⟩ := h
  rfl
def ds_key_by : DS :=
    (sSeq (sAsg (dVar 0) (gT 5 (gsCons (gN 5) (gsCons (gN 6) (gsCons (gN 7) (gsCons (gN 8) (gsCons (gN 9) gsNil)))))))
    (sSeq (sSet (dCB (vOne fTuple) (dCons (dLc (icT (dVar 5)) (gT 2 (gsCons (gN 11) (gsCons (gN 12) gsNil))) ttYes (dTup (dCons (dCallP p_cut (dCons (dVar 11) (dCons (dVar 1) dNil))) (dCons (dVar 12) dNil))) [11, 12]) dNil)) 2)
    (sSeq (sSet (dCB (vOne fTuple) (dCons (dLc (icL (dMS mSplit (dVar 7) (dCons (dC (.str k_x32)) dNil))) (gN 10) ttYes (dCallP p_cut (dCons (dVar 10) (dCons (dVar 1) dNil))) [10]) dNil)) 3)
    (sSeq (sSet (dIf (dB (d2 (p2 nIs) (dVar 8) (dC .non))) (dTup dNil) (dTup (dCons (dCallP p_cut (dCons (dVar 8) (dCons (dVar 1) dNil))) dNil))) 4)
    (sRet (dTup (dCons (dVar 2) (dCons (dVar 6) (dCons (dVar 3) (dCons (dVar 4) (dCons (dIf (dB (d2 (p2 nIs) (dVar 9) (dC .non))) (dTup dNil) (dTup (dCons (dVar 9) dNil))) dNil)))))))))))
theorem Sm_bk {b : Bk} (h : Sm b.toD) : b.names.length ≤ 1000 ∧ (∀ n ∈ b.names, n.1.length ≤ 1000 ∧ n.2.length ≤ 1000) ∧ b.title.length ≤ 1000 ∧ ∀ p, b.place = some p → p.length ≤ 1000 := by
  simp [Bk.toD] at h
  obtain ⟨⟨h1, h2⟩, h3, h4, h5⟩ := h
  refine ⟨h1, fun n hn => ?_, h3, fun p hp => ?_⟩
  · have := h2.mem (List.mem_map.mpr ⟨n, hn, rfl⟩)
    simpa [nmD] using this
  · rw [hp] at h4
    simpa [opS] using h4
theorem sem_key_by (a : List D) (R : U → Prop) (h : p_key_by a R) : ds_key_by { nx := fun _ => R (.d .non), rt := resR R } (slots N_key_by (a.map U.d)) := by
  obtain ⟨b, ts, rfl, hs, hb, ht, h⟩ := h
  obtain ⟨s1, s2, s3, s4⟩ := Sm_bk hs
  have all := ht.all
  obtain ⟨ns, y, t, p, v⟩ := b
  simp only at s1 s2 s3 s4
  simp only [ds_key_by, sSeq, sAsg, dVar]
  refine ⟨rfl, ?_⟩
  simp only [gsCons, gN, gsNil]
  refine ⟨trivial, ?_⟩
  refine tupLc (xs := ns.map nmD) (ok := fun _ => True) (keyN ts) (fun R' h => h) trivial (free2 rfl rfl) (by rw [List.length_map]; exact thou s1) (fun x hx P hP => ?_) ?_
  · obtain ⟨n, hn, rfl⟩ := List.mem_map.mp hx
    obtain ⟨f1, f2⟩ := low_fam_ok (hb.fam n hn).1
    simp [nmD]
    refine ⟨(s2 n hn).1, by rw [f1]; exact (s2 n hn).1, fun c hc => all c (f2 c hc), ?_, hP _ rfl⟩
    rw [sizeLine_eq]; omega
  have e1 : (ns.map nmD).map (keyN ts) = ns.map fun n => .tup [cutW ts n.1, .str n.2] := by
    rw [List.map_map]
    rfl
  rw [e1]
  dsimp only [sSet]
  have wl := sp1_len t
  have wm := sp1_mem t
  refine tupLc (xs := (sp1 t).map D.str) (ok := fun _ => True) (keyX ts) (fun R' h => ?_) trivial (free1 rfl) (by rw [List.length_map]; exact mill (by omega)) (fun x hx P hP => ?_) ?_
  · simp
    exact ⟨mill (by omega), by rw [splitC_eq]; exact h⟩
  · obtain ⟨w, hw, rfl⟩ := List.mem_map.mp hx
    have f := title_words hb.ti w hw
    have := wm w hw
    simp
    exact ⟨by omega, by omega, fun c hc => all c (f.2 c hc), hP _ rfl⟩
  have e2 : ((sp1 t).map D.str).map (keyX ts) = (sp1 t).map (cutW ts) := by
    rw [List.map_map]
    rfl
  rw [e2]
  have z5 : 5 ≤ sizeLine := by rw [sizeLine_eq]; omega
  have z1 : 1 ≤ sizeLine := by rw [sizeLine_eq]; omega
  cases p with
  | none => cases v <;> simp [opS, opI, z5, z1] <;> exact h
  | some p =>
    have f := low_fam_ok (hb.pl p rfl)
    have := s4 p rfl
    cases v <;> simp [opS, opI, z5, z1] <;> exact ⟨by omega, by omega, fun c hc => all c (f.2 c hc), h⟩
section
variable {P : Program} {w : World} {K : PySem.W.Frag} {mg : Str → Option Value} {base : Heap}
theorem ok_key_by (T : Txt K mg) (F : Df K mg "key_by" s_key_by) (O_cut : Ok P w K mg base 1 "cut" ["word", "letters"] (spP K p_cut)) : Ok P w K mg base 2 "key_by" ["book", "letters"] (spP K p_key_by) := by
  obtain ⟨f, fd, F, g⟩ := F
  refine ⟨f, fd, fnP F sc_key_by (fun a R h => len_key_by a R h) (by decide) (ds := ds_key_by) (fun cdv A outer s H E hr => ?_) sem_key_by, g, F.kp, F.binds fun _ _ _ _ _ _ us hl => match us, hl with | [_, _], _ => rfl⟩
  exact (dss_cons (ds_asg (dv 0) (dg_tup rfl (dgs_cons (dg_name 5 (by decide) sc_key_by.nd) (dgs_cons (dg_name 6 (by decide) sc_key_by.nd) (dgs_cons (dg_name 7 (by decide) sc_key_by.nd) (dgs_cons (dg_name 8 (by decide) sc_key_by.nd) (dgs_cons (dg_name 9 (by decide) sc_key_by.nd) dgs_nil)))))))
    (dss_cons (ds_set 2 (by decide) sc_key_by.nd (de_callTy call_tupleF lift_tuple (by rfl) T.m_tuple (by decide +kernel) (da_cons (de_lc (own := [("family", 11), ("given", 12)]) rfl sc_key_by.nd (ic_tup (dv 5)) (blkOk_by (own := [("family", 11), ("given", 12)]) (N := N_key_by) (sc := defScope s_key_by) (by decide +kernel)) (fun _ _ _ _ _ => (dg_tup rfl (dgs_cons (dg_name 11 (by decide) sc_key_by.nd) (dgs_cons (dg_name 12 (by decide) sc_key_by.nd) dgs_nil)))) (fun _ _ _ _ _ => dts_nil) (fun _ _ _ _ _ => (de_tup (da_cons (dcall O_cut (by exact hr.mono (by decide)) (by rfl) (da_cons (dv 11) (da_cons (dv 1) da_nil))) (da_cons (dv 12) da_nil))))) da_nil)))
    (dss_cons (ds_set 3 (by decide) sc_key_by.nd (de_callTy call_tupleF lift_tuple (by rfl) T.m_tuple (by decide +kernel) (da_cons (de_lc (own := [("word", 10)]) rfl sc_key_by.nd (ic_lst (de_ms PySem.F.plainAttrs_str PySem.F.slot_str_split PySem.F.type_str_split mt_split lift_split (dv 7) (da_cons (de_str e_x32) da_nil))) (blkOk_by (own := [("word", 10)]) (N := N_key_by) (sc := defScope s_key_by) (by decide +kernel)) (fun _ _ _ _ _ => (dg_name 10 (by decide) sc_key_by.nd)) (fun _ _ _ _ _ => dts_nil) (fun _ _ _ _ _ => (dcall O_cut (by exact hr.mono (by decide)) (by rfl) (da_cons (dv 10) (da_cons (dv 1) da_nil))))) da_nil)))
    (dss_cons (ds_set 4 (by decide) sc_key_by.nd (de_ifExp (dt_cmp op_isN lift_isN (dv 8) de_non (nomark _)) (de_tup da_nil) (de_tup (da_cons (dcall O_cut (by exact hr.mono (by decide)) (by rfl) (da_cons (dv 8) (da_cons (dv 1) da_nil))) da_nil))))
    (dss_one (ds_ret (de_tup (da_cons (dv 2) (da_cons (dv 6) (da_cons (dv 3) (da_cons (dv 4) (da_cons (de_ifExp (dt_cmp op_isN lift_isN (dv 9) de_non (nomark _)) (de_tup da_nil) (de_tup (da_cons (dv 9) da_nil))) da_nil))))))))))))
end
end Ib
set_option Elab.async false
set_option linter.all false
set_option autoImplicit false
set_option maxRecDepth 100000
set_option maxHeartbeats 4000000
/-! IbM4: ordered. -/
namespace Ib
open PySem PySem.Spec PyProof.Rows L2 TL PySem.W
variable [Tabl]
/-! ### keys are alike -/
theorem alikeAll_of : ∀ {xs ys : List PyData}, (∀ x ∈ xs, ∀ y ∈ ys, alike x y = true) → alikeAll xs ys = true
  | [], _, _ => by simp [alikeAll]
  | _ :: _, [], _ => by simp [alikeAll]
  | x :: xs, y :: ys, h => by
    rw [alikeAll, h x (by simp) y (by simp), alikeAll_of fun a ha b hb => h a (by simp [ha]) b (by simp [hb])]
    rfl
theorem pd_tup (xs : List D) : (D.tup xs).pd = .tuple (xs.map D.pd) := by rw [D.pd, pds_map]
theorem pd_nat (n : Nat) : (D.int (n : Nat)).pd = .int (n : Nat) := by rw [D.pd]
theorem alike_cut (ts : List Cs) (a b : Cs) : alike (cutW ts a).pd (cutW ts b).pd = true := by
  unfold cutW
  rw [pd_tup, pd_tup, alike]
  refine alikeAll_of fun x hx y hy => ?_
  simp only [natsD, List.map_map, List.mem_map] at hx hy
  obtain ⟨i, _, rfl⟩ := hx
  obtain ⟨j, _, rfl⟩ := hy
  simp [D.pd, alike]
theorem alike_key (ts : List Cs) (a b : Bk) : alike (keyD ts a).pd (keyD ts b).pd = true := by
  unfold keyD
  rw [pd_tup, pd_tup]
  simp only [List.map_cons, List.map_nil, pd_tup, alike, alikeAll, Bool.and_eq_true]
  refine ⟨?_, by simp [D.pd, alike], ?_, ?_, ?_, trivial⟩
  · refine alikeAll_of fun x hx y hy => ?_
    simp only [List.map_map, List.mem_map] at hx hy
    obtain ⟨i, _, rfl⟩ := hx
    obtain ⟨j, _, rfl⟩ := hy
    simp only [Function.comp, pd_tup, List.map_cons, List.map_nil, alike, alikeAll, alike_cut, Bool.true_and]
    simp [D.pd, alike]
  · refine alikeAll_of fun x hx y hy => ?_
    simp only [List.map_map, List.mem_map] at hx hy
    obtain ⟨i, _, rfl⟩ := hx
    obtain ⟨j, _, rfl⟩ := hy
    exact alike_cut ts i j
  · cases a.place <;> cases b.place <;> simp [keyP, D.pd, D.pds, alike, alikeAll, alike_cut]
  · cases a.volume <;> cases b.volume <;> simp [keyV, D.pd, D.pds, alike, alikeAll]
theorem depthAll_le {n : Nat} : ∀ {xs : List PyData}, (∀ x ∈ xs, x.depth ≤ n) → PyData.depthAll xs ≤ n
  | [], _ => by simp [PyData.depthAll]
  | x :: xs, h => by
    rw [PyData.depthAll]
    have := h x (by simp)
    have := depthAll_le (xs := xs) fun y hy => h y (by simp [hy])
    omega
theorem depth_cut (ts : List Cs) (a : Cs) : (cutW ts a).pd.depth ≤ 1 := by
  unfold cutW
  rw [pd_tup, PyData.depth]
  have := depthAll_le (n := 0) (xs := (natsD (cutL ts (lowC a))).map D.pd) fun x hx => by
    simp only [natsD, List.map_map, List.mem_map] at hx
    obtain ⟨i, _, rfl⟩ := hx
    simp [D.pd, PyData.depth]
  omega
theorem depth_key (ts : List Cs) (a : Bk) : (keyD ts a).pd.depth ≤ 60 := by
  unfold keyD
  rw [pd_tup, PyData.depth]
  have : PyData.depthAll (List.map D.pd [D.tup (a.names.map fun n => D.tup [cutW ts n.1, .str n.2]), .int a.year, .tup ((sp1 a.title).map (cutW ts)), keyP ts a.place, keyV a.volume]) ≤ 5 := by
    refine depthAll_le fun x hx => ?_
    simp only [List.map_cons, List.map_nil, List.mem_cons, List.not_mem_nil, or_false] at hx
    rcases hx with rfl | rfl | rfl | rfl | rfl
    · rw [pd_tup, PyData.depth]
      have := depthAll_le (n := 3) (xs := (a.names.map fun n => D.tup [cutW ts n.1, .str n.2]).map D.pd) fun x hx => by
        simp only [List.map_map, List.mem_map] at hx
        obtain ⟨i, _, rfl⟩ := hx
        simp only [Function.comp, pd_tup, List.map_cons, List.map_nil, PyData.depth, PyData.depthAll]
        have := depth_cut ts i.1
        simp [D.pd, PyData.depth]
        omega
      omega
    · simp [D.pd, PyData.depth]
    · rw [pd_tup, PyData.depth]
      have := depthAll_le (n := 1) (xs := ((sp1 a.title).map (cutW ts)).map D.pd) fun x hx => by
        simp only [List.map_map, List.mem_map] at hx
        obtain ⟨i, _, rfl⟩ := hx
        exact depth_cut ts i
      omega
    · cases e : a.place with
      | none => simp [keyP, D.pd, D.pds, PyData.depth, PyData.depthAll]
      | some p =>
        have := depth_cut ts p
        simp [keyP, D.pd, D.pds, PyData.depth, PyData.depthAll]
        omega
    · cases e : a.volume <;> simp [keyV, D.pd, D.pds, PyData.depth, PyData.depthAll]
  omega
open Classical in
/-- a book's key -/
noncomputable def kdD (ts : List Cs) (d : D) : D := if h : ∃ b : Bk, d = b.toD then keyD ts h.choose else .non
theorem kdD_toD (ts : List Cs) (b : Bk) : kdD ts b.toD = keyD ts b := by
  have h : ∃ c : Bk, b.toD = c.toD := ⟨b, rfl⟩
  unfold kdD
  rw [dif_pos h]
  rw [← Bk.inj h.choose_spec]
noncomputable def ordD (ts : List Cs) (bs : List D) : List D := bs.mergeSort (dataLe false fun d => (kdD ts d).pd)
theorem keyed_ok {ts : List Cs} {bs : List D} (hb : ∀ x ∈ bs, isBook x = true) : AllAlike (bs.map fun d => (kdD ts d).pd) ∧ Sortable (bs.map fun d => (kdD ts d).pd) := by
  constructor
  · intro d hd d' hd'
    obtain ⟨x, hx, rfl⟩ := List.mem_map.mp hd
    obtain ⟨y, hy, rfl⟩ := List.mem_map.mp hd'
    obtain ⟨b, rfl, _⟩ := isBook_of (hb x hx)
    obtain ⟨c, rfl, _⟩ := isBook_of (hb y hy)
    rw [kdD_toD, kdD_toD]
    exact alike_key ts b c
  · refine .inl fun d hd => ?_
    obtain ⟨x, hx, rfl⟩ := List.mem_map.mp hd
    obtain ⟨b, rfl, _⟩ := isBook_of (hb x hx)
    rw [kdD_toD]
    unfold keyD
    rw [pd_tup]
    exact ⟨_, _, rfl⟩
theorem isList_of {x : D} (h : isList x = true) : ∃ bs, x = .tup bs ∧ (∀ b ∈ bs, isBook b = true) ∧ bs.Nodup := by
  cases x with
  | tup bs =>
    simp only [isList, Bool.and_eq_true] at h
    exact ⟨bs, rfl, List.all_eq_true.mp h.1, (ndB_iff bs).mp h.2⟩
  | _ => cases h
def p_ordered : PSp := fun a R => ∃ (bs : List D) (ts : List Cs), a = [.tup bs, .tup (ts.map D.str)] ∧ Sm (.tup bs) ∧ isList (.tup bs) = true ∧ Sm (.tup (ts.map D.str)) ∧ LetsOk ts ∧ R (.d (.tup (ordD ts bs)))
@[simp] theorem e_ordered (bs : List D) (ts : List Cs) (R : U → Prop) : p_ordered [.tup bs, .tup (ts.map D.str)] R ↔ Sm (.tup bs) ∧ isList (.tup bs) = true ∧ Sm (.tup (ts.map D.str)) ∧ LetsOk ts ∧ R (.d (.tup (ordD ts bs))) := by
  constructor
  · rintro ⟨bs', ts', e, h⟩
    simp only [List.cons.injEq, D.tup.injEq, and_true] at e
    rw [e.1, strs_inj e.2]
    exact h
  · exact fun h => ⟨bs, ts, rfl, h⟩
theorem len_ordered (a : List D) (R : U → Prop) (h : p_ordered a R) : a.length = 2 := by
  unfold p_ordered at h
  obtain ⟨x0, x1, rfl, _⟩ := h
  rfl
def ds_ordered : DS :=
  (sSeq (sExpr (dCallP p_need_list (dCons (dVar 0) dNil)))
  (sSeq (sExpr (dCallP p_need_letters (dCons (dVar 1) dNil)))
  (sRet (dCB (vOne fTuple) (dCons (dSortK (dVar 0) (dCallP p_key_by (dCons (dVar 2) (dCons (dVar 1) dNil)))) dNil)))))
theorem sem_ordered (a : List D) (R : U → Prop) (h : p_ordered a R) : ds_ordered { nx := fun _ => R (.d .non), rt := resR R } (slots N_ordered (a.map U.d)) := by
  obtain ⟨bs, ts, rfl, s1, h1, s2, h2, h⟩ := h
  obtain ⟨bs', e, hb, _⟩ := isList_of h1
  cases e
  simp only [ds_ordered, sSeq, sExpr, dCallP, dCons, dVar, dNil]
  refine (e_need_list _ _).mpr ⟨s1, h1, ?_⟩
  refine (e_need_letters _ _).mpr ⟨s2, by rw [isLets_strs]; exact letsOk.mpr h2, ?_⟩
  simp only [sRet, dCB, dSortK, dVar]
  have hl : bs.length ≤ 1000 := by simp at s1; exact s1.1
  obtain ⟨al, so⟩ := keyed_ok (ts := ts) hb
  refine ⟨fun i u e => ?_, thou hl, kdD ts, al, so, fun x hx => ?_, fun x hx R' hR => ?_, ?_⟩
  · match i, e with
    | 0, e => exact ⟨.tup bs, by simpa using e.symm⟩
    | 1, e => exact ⟨.tup (ts.map D.str), by simpa using e.symm⟩
    | n + 2, e => simp at e
  · obtain ⟨b, rfl, _⟩ := isBook_of (hb x hx)
    rw [kdD_toD]
    exact depth_key ts b
  · obtain ⟨b, rfl, hok⟩ := isBook_of (hb x hx)
    simp
    simp at s1
    exact ⟨s1.2.mem hx, hok, h2, by rw [← kdD_toD]; exact hR _⟩
  · simp
    exact h
section
variable {P : Program} {w : World} {K : PySem.W.Frag} {mg : Str → Option Value} {base : Heap}
/-- a def whose code object is known -/
theorem fnPC {x qual : Str} {st : Stmt} {f : Addr} {fd : FuncData} {N ps : List Str} {k : Nat} {psp : PSp} {ds : DS} {c : Addr} (F : Fun K x qual st f fd) (hcode : fd.code = .ref c) (S : FnScope N ps (defScope st)) (hl : ∀ a R, psp a R → a.length = ps.length) (hle : ps.length ≤ N.length)
    (hb : ∀ (A : Around) (outer : List PySem.Env) (s : Shared) (H : Hp) (E : XK), Room k (A.deeper (envOfC qual (defScope st) s.heap.objs.size f (.ref c))) → PSs (cxOf CX0 P w K mg base N qual (defScope st) f (.ref c) A outer s H E).nox (defBody st) (upS K (kpn ps.length) ds))
    (hs : ∀ a R, psp a R → ds { nx := fun _ => R (.d .non), rt := resR R } (slots N (a.map U.d))) : FnOk P w K mg base CX0 (k + 1) f fd ps (spP K psp) := by
  obtain ⟨oc, od, kV, doc, pm, an, cdv, ct, osl, rfl, lk, hcd⟩ := F.ex
  have e : cdv = .ref c := hcode
  subst e
  exact fn_of lk hcd S (fun vs H Q E ⟨_, a, R, hi, hp, _⟩ => by rw [hi.length]; exact hl a R hp) fun A outer s H vs Q E hr h => ⟨_, (hb A outer s H E hr).nox, readP hl hle hs h⟩
theorem ok_ordered {c Pt : Addr} (T : Txt K mg) (F : ∃ f fd, Fun K "ordered" "ordered" s_ordered f fd ∧ mg "ordered" = some (.ref f) ∧ fd.code = .ref c) (TB : LamX.TabB base mg c Pt) (hT : (Pt, (("ordered.<locals>.<lambda>" : String) : Str)) ∈ Tabl.T) (hu : ∀ p ∈ Tabl.T, p.1 = Pt → p.2 = (("ordered.<locals>.<lambda>" : String) : Str))
    (O_need_list : Ok P w K mg base 6 "need_list" ["value"] (spP K p_need_list)) (O_need_letters : Ok P w K mg base 4 "need_letters" ["value"] (spP K p_need_letters)) (O_key_by : Ok P w K mg base 2 "key_by" ["book", "letters"] (spP K p_key_by)) : Ok P w K mg base 7 "ordered" ["books", "letters"] (spP K p_ordered) := by
  obtain ⟨f, fd, F, g, hcode⟩ := F
  refine ⟨f, fd, fnPC F hcode sc_ordered (fun a R h => len_ordered a R h) (by decide) (ds := ds_ordered) (fun A outer s H E hr => ?_) sem_ordered, g, F.kp, F.binds fun _ _ _ _ _ _ us hl => match us, hl with | [_, _], _ => rfl⟩
  refine dss_cons (ds_expr (dcall O_need_list (by exact hr.mono (by decide)) (by rfl) (da_cons (dv 0) da_nil))) (dss_cons (ds_expr (dcall O_need_letters (by exact hr.mono (by decide)) (by rfl) (da_cons (dv 1) da_nil))) (dss_one (ds_ret (de_callTy call_tupleF lift_tuple (by rfl) T.m_tuple (by decide +kernel) (da_cons ?_ da_nil)))))
  exact de_sortK (k := 3) (a := "book") (c := c) (P := Pt) (by rfl) T.m_sorted TB rfl hT hu (by exact hr.mono (by decide)) (lamS1_by (by show lamS1B (defScope s_ordered) _ "book" = true; decide +kernel)) (by show ("book" : Str) ∉ N_ordered; decide) rfl (fun _ _ _ _ _ _ => rfl) (dv 0)
    (fun A s H f c' hr' => dcall O_key_by (by exact hr'.mono (by decide)) (by rfl) (da_cons (dv 2) (da_cons (dv 1) da_nil)))
end
end Ib
set_option Elab.async false
set_option linter.all false
set_option autoImplicit false
set_option maxRecDepth 100000
set_option maxHeartbeats 4000000
/-! IbR: a def of three parameters, the second an own list of the caller's, which is read alone. -/
namespace Ib
open PySem PySem.Spec PyProof.Rows L2 TL
variable [Tabl]
abbrev LSp := D → List D → D → (D → Prop) → Prop
def spL (K : PySem.W.Frag) (lsp : LSp) : Sp := fun vs H Q _ => Tbs H ∧ ∃ (v0 : V) (p : Addr) (v2 : V) (us : List V) (d0 : D) (xs : List D) (d2 : D) (R : D → Prop), vs = [v0, .ref p, v2] ∧ Is K H v0 d0 ∧ H p = some (.lst us) ∧ Iss K H us xs ∧ Is K H v2 d2 ∧ lsp d0 xs d2 R ∧
  ∀ y v H' us', R y → Stp (fun b => b = p) H H' → H' p = some (.lst us') → Iss K H' us' xs → Is K H' v y → Q v H'
@[simp] def dCallL (lsp : LSp) (da : DA) : DE := fun δ R => da δ fun ws δ1 => match ws with
  | [.d x, .bor i, .d z] => (match δ1[i]? with
    | some (some (.lst xs)) => lsp x xs z fun y => R (.d y) δ1
    | _ => False)
  | _ => False
/-- the slot's list is as it was -/
theorem EnvOk.again {K : PySem.W.Frag} {σ : St} {H H' : Hp} {δ : DEnv} (E : EnvOk K σ H δ) {i : Nat} {a : Addr} {us : List V} {xs : List D} (e1 : σ[i]? = some (some (.ref a))) (e2 : δ[i]? = some (some (.lst xs))) (st : Stp (fun b => b = a) H H') (h1 : H' a = some (.lst us)) (h2 : Iss K H' us xs) :
    AR K σ δ H δ H' := by
  have ma : ∀ b, b = a → M σ δ b := fun b hb => ⟨i, _, _, e1, e2, hb⟩
  have hm : ∀ b, b = a → ∃ xs, H b = some (.lst xs) := fun b z => E.own (ma b z)
  refine ⟨.refl _, st.weak ma, ⟨st.tab E.tab, E.len, fun j w e => ?_, E.sep⟩⟩
  by_cases hj : j = i
  · subst hj
    rw [e2] at e
    cases e
    exact ⟨_, e1, a, us, rfl, h1, h2⟩
  · obtain ⟨v, q1, h⟩ := E.has j w e
    refine ⟨v, q1, ?_⟩
    have nf : ∀ b, fp v w b → ¬ (b = a) := fun b f z => E.sep j i v w _ _ b hj q1 e e1 e2 f z
    cases w with
    | d x => exact st.is hm h
    | lst xs =>
      obtain ⟨p, vs, rfl, ep, hi⟩ := h
      exact ⟨p, vs, rfl, st.keep _ _ ep (nf p rfl), st.iss hm hi⟩
    | rdr l2 n2 =>
      obtain ⟨p, rfl, ne, ns, x1, x2, x3, x4, x5, x6, g1, g2, r⟩ := h
      exact ⟨p, rfl, ne, ns, x1, x2, x3, x4, x5, x6, st.keep _ _ g1 (nf l2 (.inr rfl)), st.keep _ _ g2 (nf p (.inl rfl)), r⟩
    | bor i => exact h.elim
section
variable {X : Cx} {k : Nat} {ps : List Str} {lsp : LSp} {x : Str} {p pos : Pos} {e : Expr} {es : List Expr} {da : DA}
theorem dcallL (F : Ok X.prog X.w X.K X.mg X.base k x ps (spL X.K lsp)) (hr : Room k X.A) (hg : Gl X x) (ha : PA X (e :: es) (upA X.K da))
    (hdb : (x == ("__debug__" : Str)) = false := by decide) (he : starEach (e :: es) X.env = (false, eval e X.env) :: starEach es X.env := by rfl) (hpl : (backTo pos (starEach es X.env)).any (·.1) = false := by rfl) :
    PE X (.Call (.Name x p) (e :: es) [] pos) (up X.K (dCallL lsp da)) := by
  obtain ⟨f, fd, F, hm, hk, hb⟩ := F
  exact PE.imp (pe_call F hr hg hm hk hb .nil pass0 ha hdb he hpl) fun σ H Q ⟨δ, R, E, h, q⟩ => ⟨δ, _, E, h, fun ws δ1 vs H1 h1 a1 t1 => by
    show spL X.K lsp (vs ++ []) H1 Q E0
    rw [List.append_nil]
    cases t1 with
    | nil => exact h1.elim
    | @cons v0 w0 vs0 us r t =>
      cases t with
      | nil => cases w0 <;> exact h1.elim
      | @cons v1 w1 vs1 us1 r1 t1 =>
        cases t1 with
        | nil => cases w0 <;> cases w1 <;> exact h1.elim
        | @cons v2 w2 vs2 us2 r2 t2 =>
          cases t2 with
          | cons => cases w0 <;> cases w1 <;> cases w2 <;> exact h1.elim
          | nil =>
            cases w0 with
            | d d0 =>
              cases w1 with
              | bor i =>
                cases w2 with
                | d d2 =>
                  have h1 : (match δ1[i]? with
                    | some (some (.lst xs)) => lsp d0 xs d2 fun y => R (.d y) δ1
                    | _ => False) := h1
                  split at h1
                  · rename_i xs e1
                    obtain ⟨v', e3, a, us, rfl, ea, hi⟩ := a1.env.has i _ e1
                    have r1 := r1.1
                    rw [e3] at r1
                    cases r1
                    exact ⟨a1.env.tab, v0, a, v2, us, d0, xs, d2, _, rfl, r, ea, hi, r2, h1, fun y v H' us' hy st g1 g2 hv => q _ _ _ _ hy (a1.trans (a1.env.again e3 e1 st g1 g2)) hv⟩
                  · exact h1.elim
                | _ => exact h1.elim
              | _ => cases w2 <;> exact h1.elim
            | _ => cases w1 <;> cases w2 <;> exact h1.elim⟩
end
section
variable {P : Program} {w : World} {K : PySem.W.Frag} {mg : Str → Option Value} {base : Heap}
theorem fnL {x qual : Str} {st : Stmt} {f : Addr} {fd : FuncData} {N ps : List Str} {k : Nat} {lsp : LSp} {ds : DS} (F : Fun K x qual st f fd) (S : FnScope N ps (defScope st)) (hl : ps.length = 3) (hle : ps.length ≤ N.length)
    (hb : ∀ (cdv : Value) (A : Around) (outer : List PySem.Env) (s : Shared) (H : Hp) (E : XK), Room k (A.deeper (envOfC qual (defScope st) s.heap.objs.size f cdv)) → PSs (cxOf CX0 P w K mg base N qual (defScope st) f cdv A outer s H E).nox (defBody st) (upS K (kpn ps.length) ds))
    (hs : ∀ d0 xs d2 R, lsp d0 xs d2 R → ds { nx := fun _ => False, rt := fun w δ => δ[1]? = some (some (.lst xs)) ∧ ∃ y, w = .d y ∧ R y } (slots N [.d d0, .lst xs, .d d2])) : FnOk P w K mg base CX0 (k + 1) f fd ps (spL K lsp) := by
  refine F.ok S (fun vs H Q E hh => ?_) fun cdv A outer s H vs Q E hr hh => ⟨_, hb cdv A outer s H E hr, ?_⟩
  · obtain ⟨_, v0, p, v2, us, d0, xs, d2, R, rfl, _⟩ := hh
    exact hl.symm
  obtain ⟨tb, v0, p, v2, us, d0, xs, d2, R, rfl, i0, hp, hi, i2, hh, q⟩ := hh
  have s0 : (L2.start N [v0, .ref p, v2])[0]? = some (some v0) := start_at rfl
  have s1 : (L2.start N [v0, .ref p, v2])[1]? = some (some (.ref p)) := start_at rfl
  have s2 : (L2.start N [v0, .ref p, v2])[2]? = some (some v2) := start_at rfl
  have get0 : ∀ {i : Nat} {w : U}, (slots N [.d d0, .lst xs, .d d2])[i]? = some (some w) → (i = 0 ∧ w = .d d0) ∨ (i = 1 ∧ w = .lst xs) ∨ (i = 2 ∧ w = .d d2) := fun {i w} e => by
    have e := slots_get e
    match i, e with
    | 0, e => left; simp at e; exact ⟨rfl, e.symm⟩
    | 1, e => right; left; simp at e; exact ⟨rfl, e.symm⟩
    | 2, e => right; right; simp at e; exact ⟨rfl, e.symm⟩
    | i + 3, e => simp at e
  have e0 : EnvOk K (L2.start N [v0, .ref p, v2]) H (slots N [.d d0, .lst xs, .d d2]) := by
    refine ⟨tb, by unfold L2.start slots; simp, fun i w e => ?_, fun i j v w v' w' b hij q1 q2 q3 q4 f g => ?_⟩
    · rcases get0 e with ⟨rfl, rfl⟩ | ⟨rfl, rfl⟩ | ⟨rfl, rfl⟩
      · exact ⟨_, s0, i0⟩
      · exact ⟨_, s1, p, us, rfl, hp, hi⟩
      · exact ⟨_, s2, i2⟩
    · rcases get0 q2 with ⟨rfl, rfl⟩ | ⟨rfl, rfl⟩ | ⟨rfl, rfl⟩
      · cases v <;> exact f.elim
      · rcases get0 q4 with ⟨rfl, rfl⟩ | ⟨rfl, rfl⟩ | ⟨rfl, rfl⟩
        · cases v' <;> exact g.elim
        · exact hij rfl
        · cases v' <;> exact g.elim
      · cases v <;> exact f.elim
  have mp : ∀ b, M (L2.start N [v0, .ref p, v2]) (slots N [.d d0, .lst xs, .d d2]) b → b = p := fun b m => by
    obtain ⟨i, v, w, e1, e2, f⟩ := m
    rcases get0 e2 with ⟨rfl, rfl⟩ | ⟨rfl, rfl⟩ | ⟨rfl, rfl⟩
    · cases v <;> exact f.elim
    · rw [s1] at e1
      cases e1
      exact f
    · cases v <;> exact f.elim
  refine ⟨_, _, e0, hs d0 xs d2 R hh, fun δ' σ' H' z s => z.elim, fun w δ' v σ' H' ⟨h1, y, hy, h2⟩ s t => ?_, fun _ _ _ z => z.elim, fun _ _ _ z => z.elim⟩
  subst hy
  obtain ⟨v', e1, a2, us', rfl, ha, hia⟩ := s.env.has 1 _ h1
  rw [s.par 1 (by show 1 < ps.length; omega), s1] at e1
  cases e1
  exact q y v H' us' h2 (s.st.weak mp) ha hia t
end
end Ib
set_option Elab.async false
set_option linter.all false
set_option autoImplicit false
set_option maxRecDepth 100000
set_option maxHeartbeats 4000000
/-! IbM5: texts, pieces, ways to show names. -/
namespace Ib
open PySem PySem.Spec PyProof.Rows L2 TL
variable [Tabl]
def prn (c : Nat) : Bool := decide (32 ≤ c) && decide (c ≤ 126)
def txtL (lo hi : Int) (s : Cs) : Bool := (decide (lo ≤ (s.length : Int)) && decide ((s.length : Int) ≤ hi)) && s.all prn
def isTxt (lo hi : Int) : D → Bool
  | .str s => txtL lo hi s
  | _ => false
abbrev FLD : List Cs := [k_names, k_year, k_title, k_place, k_volume]
def isPP : D → Bool
  | .tup [.str f, x] => decide (f = k_mark) && isTxt 1 3 x
  | .tup [.str f] => decide (f ∈ FLD)
  | _ => false
def isPPs : D → Bool
  | .tup xs => decide (xs.length ≤ 3) && xs.all isPP
  | _ => false
def isIf : D → Bool
  | .tup [.str f, .str a, t, e] => decide (f = k_if) && (decide (a ∈ [k_place, k_volume]) && (isPPs t && isPPs e))
  | _ => false
def isPc (x : D) : Bool := isPP x || isIf x
abbrev WAY : List Cs := [k_ahead, k_behind, k_none]
def isShown : D → Bool
  | .tup [.str g, .bl _, gap, join, last, most, rest] => decide (g ∈ WAY) && (isTxt 0 2 gap && ((isTxt 0 3 join && (isTxt 0 3 last && isTxt 0 3 rest)) && btw 1 3 most))
  | _ => false
def p_is_text : PSp := fun a R => ∃ x lo hi, a = [x, .int lo, .int hi] ∧ Sm x ∧ R (.d (.bl (isTxt lo hi x)))
@[simp] theorem e_is_text (x : D) (lo hi : Int) (R : U → Prop) : p_is_text [x, .int lo, .int hi] R ↔ Sm x ∧ R (.d (.bl (isTxt lo hi x))) := by
  unfold p_is_text
  constructor
  · rintro ⟨_, _, _, e, h⟩
    cases e
    exact h
  · exact fun h => ⟨x, lo, hi, rfl, h⟩
def p_is_plain_piece : PSp := fun a R => ∃ x, a = [x] ∧ Sm x ∧ R (.d (.bl (isPP x)))
def p_are_plain_pieces : PSp := fun a R => ∃ x, a = [x] ∧ Sm x ∧ R (.d (.bl (isPPs x)))
def p_is_piece : PSp := fun a R => ∃ x, a = [x] ∧ Sm x ∧ R (.d (.bl (isPc x)))
def p_is_shown : PSp := fun a R => ∃ x, a = [x] ∧ Sm x ∧ R (.d (.bl (isShown x)))
@[simp] theorem e_is_plain_piece (x : D) (R : U → Prop) : p_is_plain_piece [x] R ↔ Sm x ∧ R (.d (.bl (isPP x))) := by simp [p_is_plain_piece]
@[simp] theorem e_are_plain_pieces (x : D) (R : U → Prop) : p_are_plain_pieces [x] R ↔ Sm x ∧ R (.d (.bl (isPPs x))) := by simp [p_are_plain_pieces]
@[simp] theorem e_is_piece (x : D) (R : U → Prop) : p_is_piece [x] R ↔ Sm x ∧ R (.d (.bl (isPc x))) := by simp [p_is_piece]
@[simp] theorem e_is_shown (x : D) (R : U → Prop) : p_is_shown [x] R ↔ Sm x ∧ R (.d (.bl (isShown x))) := by simp [p_is_shown]
theorem len_is_text (a : List D) (R : U → Prop) (h : p_is_text a R) : a.length = 3 := by obtain ⟨x, y, z, rfl, _⟩ := h; rfl
theorem len_is_plain_piece (a : List D) (R : U → Prop) (h : p_is_plain_piece a R) : a.length = 1 := by
  unfold p_is_plain_piece at h
  obtain ⟨x0, rfl, _⟩ := h
  rfl
theorem len_are_plain_pieces (a : List D) (R : U → Prop) (h : p_are_plain_pieces a R) : a.length = 1 := by
  unfold p_are_plain_pieces at h
  obtain ⟨x0, rfl, _⟩ := h
  rfl
theorem len_is_piece (a : List D) (R : U → Prop) (h : p_is_piece a R) : a.length = 1 := by
  unfold p_is_piece at h
  obtain ⟨x0, rfl, _⟩ := h
  rfl
theorem len_is_shown (a : List D) (R : U → Prop) (h : p_is_shown a R) : a.length = 1 := by
  unfold p_is_shown at h
  obtain ⟨x0, rfl, _⟩ := h
  rfl
def ds_is_text : DS :=
    (sSeq (sIf (dOr (dNot (dB (dIsi isStr (dVar 0)))) (dNot (dB (dChain (p2 (iCmp fun i j => decide (i ≤ j))) (p2 (iCmp fun i j => decide (i ≤ j))) (dVar 1) (dCB (vOne fLen) (dCons (dVar 0) dNil)) (dVar 2))))) (sRet (dC (.bl false))) sNext)
    (sRet (dCB (vOne fAll) (dCons (dLc (icS (dVar 0)) (gN 3) ttYes (dChain (p2 sLe) (p2 sLe) (dC (.str k_x32)) (dVar 3) (dC (.str k_x126))) [3]) dNil))))

def ds_is_plain_piece : DS :=
    (sSeq (sIf (dOr (dNot (dB (dIsi isTup (dVar 0)))) (dOr (dB (d2 (p2 sEq) (dCB (vOne fLen) (dCons (dVar 0) dNil)) (dC (.int 0)))) (dNot (dB (dIsi isStr (d2 vIx (dVar 0) (dC (.int 0)))))))) (sRet (dC (.bl false))) sNext)
    (sSeq (sIf (dB (d2 (p2 sEq) (d2 vIx (dVar 0) (dC (.int 0))) (dC (.str k_mark)))) (sRet (dAndV (d2 (p2 sEq) (dCB (vOne fLen) (dCons (dVar 0) dNil)) (dC (.int 2))) (dCallP p_is_text (dCons (d2 vIx (dVar 0) (dC (.int 1))) (dCons (dC (.int 1)) (dCons (dC (.int 3)) dNil)))))) sNext)
    (sRet (dAndV (d2 (p2 sEq) (dCB (vOne fLen) (dCons (dVar 0) dNil)) (dC (.int 1))) (d2 (vInS false) (d2 vIx (dVar 0) (dC (.int 0))) (dC D_FIELDS))))))

def ds_are_plain_pieces : DS :=
    (sRet (dAndV (dIsi isTup (dVar 0)) (dAndV (d2 (p2 (iCmp fun i j => decide (i ≤ j))) (dCB (vOne fLen) (dCons (dVar 0) dNil)) (dC (.int 3))) (dCB (vOne fAll) (dCons (dLc (icT (dVar 0)) (gN 1) ttYes (dCallP p_is_plain_piece (dCons (dVar 1) dNil)) [1]) dNil)))))

def ds_is_piece : DS :=
    (sSeq (sIf (dB (dCallP p_is_plain_piece (dCons (dVar 0) dNil))) (sRet (dC (.bl true))) sNext)
    (sSeq (sIf (dOr (dNot (dB (dIsi isTup (dVar 0)))) (dOr (dB (d2 (p2 sNe) (dCB (vOne fLen) (dCons (dVar 0) dNil)) (dC (.int 4)))) (dOr (dNot (dB (dIsi isStr (d2 vIx (dVar 0) (dC (.int 0)))))) (dB (d2 (p2 sNe) (d2 vIx (dVar 0) (dC (.int 0))) (dC (.str k_if))))))) (sRet (dC (.bl false))) sNext)
    (sSeq (sIf (dOr (dNot (dB (dIsi isStr (d2 vIx (dVar 0) (dC (.int 1)))))) (dB (d2 (vInS true) (d2 vIx (dVar 0) (dC (.int 1))) (dTup (dCons (dC (.str k_place)) (dCons (dC (.str k_volume)) dNil)))))) (sRet (dC (.bl false))) sNext)
    (sRet (dAndV (dCallP p_are_plain_pieces (dCons (d2 vIx (dVar 0) (dC (.int 2))) dNil)) (dCallP p_are_plain_pieces (dCons (d2 vIx (dVar 0) (dC (.int 3))) dNil)))))))

def ds_is_shown : DS :=
    (sSeq (sIf (dOr (dNot (dB (dIsi isTup (dVar 0)))) (dB (d2 (p2 sNe) (dCB (vOne fLen) (dCons (dVar 0) dNil)) (dC (.int 7))))) (sRet (dC (.bl false))) sNext)
    (sSeq (sAsg (dVar 0) (gT 7 (gsCons (gN 1) (gsCons (gN 2) (gsCons (gN 3) (gsCons (gN 4) (gsCons (gN 5) (gsCons (gN 6) (gsCons (gN 7) gsNil)))))))))
    (sSeq (sIf (dOr (dNot (dB (dIsi isStr (dVar 1)))) (dOr (dB (d2 (vInS true) (dVar 1) (dC D_WAYS))) (dOr (dNot (dB (dIsi isBl (dVar 2)))) (dNot (dB (dCallP p_is_text (dCons (dVar 3) (dCons (dC (.int 0)) (dCons (dC (.int 2)) dNil))))))))) (sRet (dC (.bl false))) sNext)
    (sSeq (sIf (dNot (dB (dCB (vOne fAll) (dCons (dLc (icT (dTup (dCons (dVar 4) (dCons (dVar 5) (dCons (dVar 7) dNil))))) (gN 8) ttYes (dCallP p_is_text (dCons (dVar 8) (dCons (dC (.int 0)) (dCons (dC (.int 3)) dNil)))) [8]) dNil)))) (sRet (dC (.bl false))) sNext)
    (sRet (dAndV (dCallP p_is_integer (dCons (dVar 6) dNil)) (dChain (p2 (iCmp fun i j => decide (i ≤ j))) (p2 (iCmp fun i j => decide (i ≤ j))) (dC (.int 1)) (dVar 6) (dC (.int 3)))))))))
theorem lt1 (a b : Nat) : (!decide (([a] : Cs) < [b])) = decide (b ≤ a) := by
  have : ([a] : Cs) < [b] ↔ a < b := by
    constructor
    · intro h
      cases h with
      | rel h => exact h
      | cons h => cases h
    · exact fun h => .rel h
  by_cases h : a < b
  · rw [decide_eq_true (this.mpr h), decide_eq_false (by omega)]; rfl
  · rw [decide_eq_false (fun z => h (this.mp z)), decide_eq_true (by omega)]; rfl
theorem prn_ok {c i : Nat} {δ : DEnv} {P : U → DEnv → Prop} (hx : δ[i]? = some (some (.d (.str [c])))) (h : P (.d (.bl (prn c))) δ) : dChain (p2 sLe) (p2 sLe) (dC (.str k_x32)) (dVar i) (dC (.str k_x126)) δ P := by
  have e1 : (!decide (([c] : Cs) < k_x32)) = decide (32 ≤ c) := lt1 c 32
  have e2 : (!decide ((k_x126 : Cs) < [c])) = decide (c ≤ 126) := lt1 126 c
  simp only [dChain, dC, dVar, hx, p2, sLe, e1, e2]
  unfold prn at h
  refine ifB_of (fun e => ?_) fun e => ?_
  · rw [e, Bool.true_and] at h
    exact h
  · rw [e, Bool.false_and] at h
    exact h
def isKw (k : Cs) : D → Bool
  | .str f => decide (f = k)
  | _ => false
theorem sem_is_text (a : List D) (R : U → Prop) (h : p_is_text a R) : ds_is_text { nx := fun _ => R (.d .non), rt := resR R } (slots N_is_text (a.map U.d)) := by
  obtain ⟨x, lo, hi, rfl, hs, h⟩ := h
  cases x with
  | str l =>
    simp only [Sm_str] at hs
    simp only [isTxt, txtL] at h
    refine guardF (!(decide (lo ≤ (l.length : Int)) && decide ((l.length : Int) ≤ hi))) (fun P hP => ?_) (fun hb => ?_) fun hb => ?_
    · refine orT false (!(decide (lo ≤ (l.length : Int)) && decide ((l.length : Int) ≤ hi))) (fun P hP => hP) (fun _ P hP => ?_) hP
      refine notT _ (fun P hP => ?_) hP
      simp
      refine ⟨thou hs, ?_⟩
      refine ifB_of (fun e => ?_) fun e => ?_
      · rw [e] at hP
        exact hP
      · rw [e] at hP
        exact hP
    · rw [nbT hb] at h
      exact h
    · rw [nbF hb] at h
      refine allLc (xs := signs1 l) (ok := fun _ => True) (fun x => (match x with
        | .str [c] => prn c
        | _ => false)) (fun R' h => h) trivial (free1 rfl) (by rw [signs1_len]; exact thou hs) (fun x hx P hP => ?_) ?_
      · obtain ⟨c, _, rfl⟩ := mem_signs1 hx
        exact prn_ok (i := 3) rfl (hP _ rfl)
      · have e : ((signs1 l).all fun x => (match x with
          | .str [c] => prn c
          | _ => false)) = l.all prn := by
          unfold signs1
          rw [List.all_map]
          rfl
        rw [e]
        exact h
  | _ => exact h
theorem isPP_long {x y z : D} {r : List D} : isPP (.tup (x :: y :: z :: r)) = false := by unfold isPP; split <;> simp_all
theorem isPP_ns {x : D} {r : List D} (h : isStr x = false) : isPP (.tup (x :: r)) = false := by
  unfold isPP
  split
  · rename_i e
    injection e with e
    injection e with e _
    subst e
    cases h
  · rename_i e
    injection e with e
    injection e with e _
    subst e
    cases h
  · rfl
theorem sem_is_plain_piece (a : List D) (R : U → Prop) (h : p_is_plain_piece a R) : ds_is_plain_piece { nx := fun _ => R (.d .non), rt := resR R } (slots N_is_plain_piece (a.map U.d)) := by
  obtain ⟨x, rfl, hs, h⟩ := h
  cases x with
  | tup xs =>
    cases xs with
    | nil => exact h
    | cons x r =>
      have hl : decide ((((x :: r).length : Nat) : Int) = 0) = false := decide_eq_false (by simp; omega)
      have ls : (x :: r).length ≤ sizeLine := by have := hs; simp at this; exact thou (by simp; omega)
      simp only [List.length_cons] at hl ls
      refine guardF (!isStr x) (fun P hP => ?_) (fun hb => ?_) fun hb => ?_
      · refine orT false (!isStr x) (fun P hP => hP) (fun _ P hP => ?_) hP
        refine orT false (!isStr x) (fun P hP => bT false (fun P hP => ?_) hP) (fun _ P hP => ?_) hP
        · simp at hl
          simp [hl]
          exact hP
        · refine notT _ (fun P hP => bT (isStr x) (fun P hP => ?_) hP) hP
          simp
          exact hP
      · rw [isPP_ns (nbT hb)] at h
        exact h
      · have hb := nbF hb
        cases x with
        | str f =>
          simp only [sSeq, sIf]
          refine bT (decide (f = k_mark)) (fun P hP => ?_) ?_
          · simp
            exact hP
          refine ifB_of (fun e => ?_) fun e => ?_
          · have e := of_decide_eq_true e
            subst e
            refine retV ?_
            match r, hs, h with
            | [], hs, h => exact h
            | [y], hs, h =>
              simp at hs
              refine andV true (isTxt 1 3 y) (fun P hP => hP) (fun _ P hP => ?_) (by exact h)
              simp
              exact ⟨hs, hP⟩
            | y :: z :: r, hs, h =>
              rw [isPP_long] at h
              simp
              have e : decide ((r.length : Int) + 1 + 1 + 1 = 2) = false := decide_eq_false (by omega)
              rw [e]
              exact h
          · have e := of_decide_eq_false e
            simp only [sNext]
            refine retV ?_
            match r, hs, h with
            | [], hs, h =>
              refine andV true (decide (f ∈ FLD)) (fun P hP => hP) (fun _ P hP => ?_) (by exact h)
              exact hP
            | [y], hs, h =>
              have e2 : isPP (.tup [.str f, y]) = false := by simp [isPP, e]
              rw [e2] at h
              exact h
            | y :: z :: r, hs, h =>
              rw [isPP_long] at h
              simp
              have e : decide ((r.length : Int) + 1 + 1 = 0) = false := decide_eq_false (by omega)
              try rw [e]
              exact h
        | _ => cases hb
  | _ => exact h
theorem sem_are_plain_pieces (a : List D) (R : U → Prop) (h : p_are_plain_pieces a R) : ds_are_plain_pieces { nx := fun _ => R (.d .non), rt := resR R } (slots N_are_plain_pieces (a.map U.d)) := by
  obtain ⟨x, rfl, hs, h⟩ := h
  cases x with
  | tup xs =>
    simp at hs
    simp only [isPPs] at h
    refine retV ?_
    refine andV true _ (fun P hP => hP) (fun _ P hP => ?_) (by exact h)
    refine andV (decide (xs.length ≤ 3)) (xs.all isPP) (fun P hP => ?_) (fun _ P hP => ?_) (by exact hP)
    · have e2 : ((xs.length : Int) ≤ 3) = (xs.length ≤ 3) := propext (by omega)
      simp [e2]
      exact hP
    · refine allLc (xs := xs) (ok := fun _ => True) isPP (fun R' h => h) trivial (free1 rfl) (thou hs.1) (fun x hx P hP => ?_) hP
      simp
      exact ⟨hs.2.mem hx, hP _ rfl⟩
  | _ => exact h
theorem isIf_ns {x : D} {r : List D} (h : isStr x = false) : isIf (.tup (x :: r)) = false := by
  unfold isIf
  split
  · rename_i e
    injection e with e
    injection e with e _
    subst e
    cases h
  · rfl
theorem isIf_len {xs : List D} (h : xs.length ≠ 4) : isIf (.tup xs) = false := by
  unfold isIf
  split
  · rename_i e
    injection e with e
    subst e
    simp at h
  · rfl
theorem sem_is_piece (a : List D) (R : U → Prop) (h : p_is_piece a R) : ds_is_piece { nx := fun _ => R (.d .non), rt := resR R } (slots N_is_piece (a.map U.d)) := by
  obtain ⟨x, rfl, hs, h⟩ := h
  simp only [isPc] at h
  simp only [ds_is_piece]
  simp only [sSeq, sIf]
  refine bT (isPP x) (fun P hP => ?_) ?_
  · simp
    exact ⟨hs, hP⟩
  refine ifB_of (fun e => ?_) fun e => ?_
  · rw [e] at h
    exact h
  rw [e, Bool.false_or] at h
  clear e
  simp only [sNext]
  cases x with
  | tup xs =>
    by_cases hl : xs.length = 4
    · match xs, hl with
      | [x, y, t, e], _ =>
        simp at hs
        refine guardF (!(isStr x && isKw k_if x)) (fun P hP => ?_) (fun hb => ?_) fun hb => ?_
        · refine orT false _ (fun P hP => hP) (fun _ P hP => ?_) hP
          refine orT false _ (fun P hP => hP) (fun _ P hP => ?_) hP
          cases x with
          | str f =>
            refine orT false (!decide (f = k_if)) (fun P hP => hP) (fun _ P hP => bT _ (fun P hP => ?_) hP) hP
            simp at hP ⊢
            exact hP
          | _ => exact hP
        · cases x with
          | str f =>
            have hb := nbT hb
            simp [isKw] at hb
            have : isIf (.tup [.str f, y, t, e]) = false := by cases y <;> simp [isIf, hb]
            rw [this] at h
            exact h
          | _ => exact h
        · cases x with
          | str f =>
            have hb := nbF hb
            simp [isKw] at hb
            subst hb
            cases y with
            | str a =>
              refine guardF (!decide (a ∈ [k_place, k_volume])) (fun P hP => ?_) (fun hb => ?_) fun hb => ?_
              · refine orT false _ (fun P hP => hP) (fun _ P hP => bT (!decide (a ∈ [k_place, k_volume])) (fun P hP => ?_) hP) hP
                exact ⟨mill (by decide), hP⟩
              · have hb := nbT hb
                have : isIf (.tup [.str k_if, .str a, t, e]) = false := by
                  simp only [isIf, hb]
                  simp
                rw [this] at h
                exact h
              · have hb := nbF hb
                have : isIf (.tup [.str k_if, .str a, t, e]) = (isPPs t && isPPs e) := by
                  simp only [isIf, hb]
                  simp
                rw [this] at h
                refine retV ?_
                refine andV (isPPs t) (isPPs e) (fun P hP => ?_) (fun _ P hP => ?_) (by exact h)
                · simp
                  exact ⟨hs.2.2.1, hP⟩
                · simp
                  exact ⟨hs.2.2.2, hP⟩
            | _ => exact h
          | _ => cases hb
    · rw [isIf_len hl] at h
      refine guardF true (fun P hP => ?_) (fun _ => h) (fun z => nomatch z)
      refine orT false true (fun P hP => hP) (fun _ P hP => ?_) hP
      refine orT true true (fun P hP => bT _ (fun P hP => ?_) hP) (fun z => nomatch z) hP
      have e : decide ((xs.length : Int) = 4) = false := decide_eq_false (by omega)
      simp at e ⊢
      first | (rw [e]; exact hP) | simpa [e] using hP
  | _ => exact h
theorem isShown_len {xs : List D} (h : xs.length ≠ 7) : isShown (.tup xs) = false := by
  unfold isShown
  split
  · rename_i e
    injection e with e
    subst e
    simp at h
  · rfl
theorem sem_is_shown (a : List D) (R : U → Prop) (h : p_is_shown a R) : ds_is_shown { nx := fun _ => R (.d .non), rt := resR R } (slots N_is_shown (a.map U.d)) := by
  obtain ⟨x, rfl, hs, h⟩ := h
  cases x with
  | tup xs =>
    by_cases hl : xs.length = 7
    · match xs, hl with
      | [g, d, gap, join, last, most, rest], _ =>
        simp at hs
        obtain ⟨s1, s2, s3, s4, s5, s6, s7⟩ := hs
        refine guardF false (fun P hP => hP) (fun z => nomatch z) fun _ => ?_
        refine ⟨rfl, ?_⟩
        dsimp only [gsCons, gN, gsNil]
        refine ⟨rfl, ?_⟩
        cases g with
        | str g =>
          cases d with
          | bl d =>
            simp only [isShown] at h
            refine guardF (!(decide (g ∈ WAY) && isTxt 0 2 gap)) (fun P hP => ?_) (fun hb => ?_) fun hb => ?_
            · refine orT false (!(decide (g ∈ WAY) && isTxt 0 2 gap)) (fun P hP => hP) (fun _ P hP => ?_) hP
              refine orT (!decide (g ∈ WAY)) (!isTxt 0 2 gap) (fun P hP => bT _ (fun P hP => hP) hP) (fun _ P hP => ?_) (by rw [Bool.not_and] at hP; exact hP)
              refine orT false _ (fun P hP => hP) (fun _ P hP => ?_) hP
              refine notT _ (fun P hP => bT _ (fun P hP => ?_) hP) hP
              simp
              exact ⟨s3, hP⟩
            · rw [← Bool.and_assoc, nbT hb] at h
              exact h
            rw [← Bool.and_assoc, nbF hb, Bool.true_and] at h
            refine guardF (!(isTxt 0 3 join && (isTxt 0 3 last && isTxt 0 3 rest))) (fun P hP => ?_) (fun hb => ?_) fun hb => ?_
            · refine notT _ (fun P hP => bT _ (fun P hP => ?_) hP) hP
              refine allLc (xs := [join, last, rest]) (ok := fun _ => True) (isTxt 0 3) (fun R' h => ⟨mill (by simp), h⟩) trivial (free1 rfl) (mill (by simp)) (fun x hx P hP => ?_) (by simpa using hP)
              have sx : Sm x := by
                simp at hx
                rcases hx with rfl | rfl | rfl <;> assumption
              simp
              exact ⟨sx, hP _ rfl⟩
            · rw [nbT hb] at h
              exact h
            rw [nbF hb, Bool.true_and] at h
            refine retV ?_
            cases hy : isIntP most with
            | true =>
              refine andV true (btw 1 3 most) (fun P hP => ?_) (fun _ P hP => btw_ok hy rfl hP) (by exact h)
              simp [hy]
              exact hP
            | false =>
              have : btw 1 3 most = false := by cases most <;> first | rfl | cases hy
              rw [this] at h
              refine andV false false (fun P hP => ?_) (fun z => nomatch z) (by exact h)
              simp [hy]
              exact hP
          | _ =>
            refine guardF true (fun P hP => ?_) (fun _ => h) (fun z => nomatch z)
            refine orT false true (fun P hP => hP) (fun _ P hP => ?_) hP
            refine orT (!decide (g ∈ WAY)) true (fun P hP => bT _ (fun P hP => hP) hP) (fun _ P hP => ?_) (by rw [Bool.or_true]; exact hP)
            exact hP
        | _ => exact h
    · rw [isShown_len hl] at h
      refine guardF true (fun P hP => ?_) (fun _ => h) (fun z => nomatch z)
      refine orT false true (fun P hP => hP) (fun _ P hP => bT _ (fun P hP => ?_) hP) hP
      have e : decide ((xs.length : Int) = 7) = false := decide_eq_false (by omega)
      simp at e ⊢
      first | (rw [e]; exact hP) | simpa [e] using hP
  | _ => exact h
section
variable {P : Program} {w : World} {K : PySem.W.Frag} {mg : Str → Option Value} {base : Heap}
theorem ok_is_text (T : Txt K mg) (F : Df K mg "is_text" s_is_text) : Ok P w K mg base 1 "is_text" ["value", "least", "most"] (spP K p_is_text) := by
  obtain ⟨f, fd, F, g⟩ := F
  refine ⟨f, fd, fnP F sc_is_text (fun a R h => len_is_text a R h) (by decide) (ds := ds_is_text) (fun cdv A outer s H E hr => ?_) sem_is_text, g, F.kp, F.binds fun _ _ _ _ _ _ us hl => match us, hl with | [_, _, _], _ => rfl⟩
  exact (dss_cons (ds_if (PW.pt (dw_or (dt_not (dt_val (de_isi kit_isStr (by rfl) T.m_isinstance (by decide +kernel) (by rfl) T.m_str (by decide +kernel) (dv 0)))) (dw_or1 (dt_not (dt_chain op_le (lift_iCmp (fun i j => decide (i ≤ j))) op_le (lift_iCmp (fun i j => decide (i ≤ j))) (dv 1) (de_callB call_len lift_len (by rfl) T.m_len (by decide +kernel) (da_cons (dv 0) da_nil)) (dv 2)))))) (dss_one (ds_ret de_bl)) dss_nil)
    (dss_one (ds_ret (de_callB (cr_all rfl) lift_all (by rfl) T.m_all (by decide +kernel) (da_cons (de_lc (own := [("sign", 3)]) rfl sc_is_text.nd (ic_str (dv 0)) (blkOk_by (own := [("sign", 3)]) (N := N_is_text) (sc := defScope s_is_text) (by decide +kernel)) (fun _ _ _ _ _ => (dg_name 3 (by decide) sc_is_text.nd)) (fun _ _ _ _ _ => dts_nil) (fun _ _ _ _ _ => (de_chain op_le_str lift_sLe op_le_str lift_sLe (de_str e_x32) (dv 3) (de_str e_x126)))) da_nil)))))

theorem ok_is_plain_piece (T : Txt K mg) (F : Df K mg "is_plain_piece" s_is_plain_piece) (O_is_text : Ok P w K mg base 1 "is_text" ["value", "least", "most"] (spP K p_is_text)) : Ok P w K mg base 2 "is_plain_piece" ["value"] (spP K p_is_plain_piece) := by
  obtain ⟨f, fd, F, g⟩ := F
  refine ⟨f, fd, fnP F sc_is_plain_piece (fun a R h => len_is_plain_piece a R h) (by decide) (ds := ds_is_plain_piece) (fun cdv A outer s H E hr => ?_) sem_is_plain_piece, g, F.kp, F.binds fun _ _ _ _ _ _ us hl => match us, hl with | [_], _ => rfl⟩
  exact (dss_cons (ds_if (PW.pt (dw_or (dt_not (dt_val (de_isi kit_isTup (by rfl) T.m_isinstance (by decide +kernel) (by rfl) T.m_tuple (by decide +kernel) (dv 0)))) (dw_or (dt_cmp op_eq lift_eq (de_callB call_len lift_len (by rfl) T.m_len (by decide +kernel) (da_cons (dv 0) da_nil)) de_int (nomark _)) (dw_or1 (dt_not (dt_val (de_isi kit_isStr (by rfl) T.m_isinstance (by decide +kernel) (by rfl) T.m_str (by decide +kernel) (de_ix ix_seq lift_ix (dv 0) de_int)))))))) (dss_one (ds_ret de_bl)) dss_nil)
    (dss_cons (ds_if (dt_cmp op_eq lift_eq (de_ix ix_seq lift_ix (dv 0) de_int) (de_str e_mark) (nomark _)) (dss_one (ds_ret (de_and (de_cmp op_eq lift_eq (de_callB call_len lift_len (by rfl) T.m_len (by decide +kernel) (da_cons (dv 0) da_nil)) de_int (nomark _)) (de_one (dcall O_is_text (by exact hr.mono (by decide)) (by rfl) (da_cons (de_ix ix_seq lift_ix (dv 0) de_int) (da_cons de_int (da_cons (de_gint (by rfl) T.c_MOST_MARK) da_nil)))))))) dss_nil)
    (dss_one (ds_ret (de_and (de_cmp op_eq lift_eq (de_callB call_len lift_len (by rfl) T.m_len (by decide +kernel) (da_cons (dv 0) da_nil)) de_int (nomark _)) (de_one (de_cmp op_in_seq lift_inS (de_ix ix_seq lift_ix (dv 0) de_int) (de_gtup (by rfl) T.c_FIELDS) (by rfl))))))))

theorem ok_are_plain_pieces (T : Txt K mg) (F : Df K mg "are_plain_pieces" s_are_plain_pieces) (O_is_plain_piece : Ok P w K mg base 2 "is_plain_piece" ["value"] (spP K p_is_plain_piece)) : Ok P w K mg base 3 "are_plain_pieces" ["value"] (spP K p_are_plain_pieces) := by
  obtain ⟨f, fd, F, g⟩ := F
  refine ⟨f, fd, fnP F sc_are_plain_pieces (fun a R h => len_are_plain_pieces a R h) (by decide) (ds := ds_are_plain_pieces) (fun cdv A outer s H E hr => ?_) sem_are_plain_pieces, g, F.kp, F.binds fun _ _ _ _ _ _ us hl => match us, hl with | [_], _ => rfl⟩
  exact (dss_one (ds_ret (de_and (de_isi kit_isTup (by rfl) T.m_isinstance (by decide +kernel) (by rfl) T.m_tuple (by decide +kernel) (dv 0)) (de_and (de_cmp op_le (lift_iCmp (fun i j => decide (i ≤ j))) (de_callB call_len lift_len (by rfl) T.m_len (by decide +kernel) (da_cons (dv 0) da_nil)) (de_gint (by rfl) T.c_MOST_IN_IF) (nomark _)) (de_one (de_callB (cr_all rfl) lift_all (by rfl) T.m_all (by decide +kernel) (da_cons (de_lc (own := [("one", 1)]) rfl sc_are_plain_pieces.nd (ic_tup (dv 0)) (blkOk_by (own := [("one", 1)]) (N := N_are_plain_pieces) (sc := defScope s_are_plain_pieces) (by decide +kernel)) (fun _ _ _ _ _ => (dg_name 1 (by decide) sc_are_plain_pieces.nd)) (fun _ _ _ _ _ => dts_nil) (fun _ _ _ _ _ => (dcall O_is_plain_piece (by exact hr.mono (by decide)) (by rfl) (da_cons (dv 1) da_nil)))) da_nil)))))))

theorem ok_is_piece (T : Txt K mg) (F : Df K mg "is_piece" s_is_piece) (O_is_plain_piece : Ok P w K mg base 2 "is_plain_piece" ["value"] (spP K p_is_plain_piece)) (O_are_plain_pieces : Ok P w K mg base 3 "are_plain_pieces" ["value"] (spP K p_are_plain_pieces)) : Ok P w K mg base 4 "is_piece" ["value"] (spP K p_is_piece) := by
  obtain ⟨f, fd, F, g⟩ := F
  refine ⟨f, fd, fnP F sc_is_piece (fun a R h => len_is_piece a R h) (by decide) (ds := ds_is_piece) (fun cdv A outer s H E hr => ?_) sem_is_piece, g, F.kp, F.binds fun _ _ _ _ _ _ us hl => match us, hl with | [_], _ => rfl⟩
  exact (dss_cons (ds_if (dt_val (dcall O_is_plain_piece (by exact hr.mono (by decide)) (by rfl) (da_cons (dv 0) da_nil))) (dss_one (ds_ret de_bl)) dss_nil)
    (dss_cons (ds_if (PW.pt (dw_or (dt_not (dt_val (de_isi kit_isTup (by rfl) T.m_isinstance (by decide +kernel) (by rfl) T.m_tuple (by decide +kernel) (dv 0)))) (dw_or (dt_cmp op_ne lift_ne (de_callB call_len lift_len (by rfl) T.m_len (by decide +kernel) (da_cons (dv 0) da_nil)) de_int (nomark _)) (dw_or (dt_not (dt_val (de_isi kit_isStr (by rfl) T.m_isinstance (by decide +kernel) (by rfl) T.m_str (by decide +kernel) (de_ix ix_seq lift_ix (dv 0) de_int)))) (dw_or1 (dt_cmp op_ne lift_ne (de_ix ix_seq lift_ix (dv 0) de_int) (de_str e_if) (nomark _))))))) (dss_one (ds_ret de_bl)) dss_nil)
    (dss_cons (ds_if (PW.pt (dw_or (dt_not (dt_val (de_isi kit_isStr (by rfl) T.m_isinstance (by decide +kernel) (by rfl) T.m_str (by decide +kernel) (de_ix ix_seq lift_ix (dv 0) de_int)))) (dw_or1 (dt_cmp op_notIn_seq lift_inS (de_ix ix_seq lift_ix (dv 0) de_int) (de_tup (da_cons (de_str e_place) (da_cons (de_str e_volume) da_nil))) (by rfl))))) (dss_one (ds_ret de_bl)) dss_nil)
    (dss_one (ds_ret (de_and (dcall O_are_plain_pieces (by exact hr.mono (by decide)) (by rfl) (da_cons (de_ix ix_seq lift_ix (dv 0) de_int) da_nil)) (de_one (dcall O_are_plain_pieces (by exact hr.mono (by decide)) (by rfl) (da_cons (de_ix ix_seq lift_ix (dv 0) de_int) da_nil)))))))))

theorem ok_is_shown (T : Txt K mg) (F : Df K mg "is_shown" s_is_shown) (O_is_text : Ok P w K mg base 1 "is_text" ["value", "least", "most"] (spP K p_is_text)) (O_is_integer : Ok P w K mg base 1 "is_integer" ["value"] (spP K p_is_integer)) : Ok P w K mg base 2 "is_shown" ["value"] (spP K p_is_shown) := by
  obtain ⟨f, fd, F, g⟩ := F
  refine ⟨f, fd, fnP F sc_is_shown (fun a R h => len_is_shown a R h) (by decide) (ds := ds_is_shown) (fun cdv A outer s H E hr => ?_) sem_is_shown, g, F.kp, F.binds fun _ _ _ _ _ _ us hl => match us, hl with | [_], _ => rfl⟩
  exact (dss_cons (ds_if (PW.pt (dw_or (dt_not (dt_val (de_isi kit_isTup (by rfl) T.m_isinstance (by decide +kernel) (by rfl) T.m_tuple (by decide +kernel) (dv 0)))) (dw_or1 (dt_cmp op_ne lift_ne (de_callB call_len lift_len (by rfl) T.m_len (by decide +kernel) (da_cons (dv 0) da_nil)) (de_gint (by rfl) T.c_SHOWN_SIZE) (nomark _))))) (dss_one (ds_ret de_bl)) dss_nil)
    (dss_cons (ds_asg (dv 0) (dg_tup rfl (dgs_cons (dg_name 1 (by decide) sc_is_shown.nd) (dgs_cons (dg_name 2 (by decide) sc_is_shown.nd) (dgs_cons (dg_name 3 (by decide) sc_is_shown.nd) (dgs_cons (dg_name 4 (by decide) sc_is_shown.nd) (dgs_cons (dg_name 5 (by decide) sc_is_shown.nd) (dgs_cons (dg_name 6 (by decide) sc_is_shown.nd) (dgs_cons (dg_name 7 (by decide) sc_is_shown.nd) dgs_nil)))))))))
    (dss_cons (ds_if (PW.pt (dw_or (dt_not (dt_val (de_isi kit_isStr (by rfl) T.m_isinstance (by decide +kernel) (by rfl) T.m_str (by decide +kernel) (dv 1)))) (dw_or (dt_cmp op_notIn_seq lift_inS (dv 1) (de_gtup (by rfl) T.c_WAYS) (by rfl)) (dw_or (dt_not (dt_val (de_isi kit_isBl (by rfl) T.m_isinstance (by decide +kernel) (by rfl) T.m_bool (by decide +kernel) (dv 2)))) (dw_or1 (dt_not (dt_val (dcall O_is_text (by exact hr.mono (by decide)) (by rfl) (da_cons (dv 3) (da_cons de_int (da_cons (de_gint (by rfl) T.c_MOST_GAP) da_nil))))))))))) (dss_one (ds_ret de_bl)) dss_nil)
    (dss_cons (ds_if (dt_not (dt_val (de_callB (cr_all rfl) lift_all (by rfl) T.m_all (by decide +kernel) (da_cons (de_lc (own := [("text", 8)]) rfl sc_is_shown.nd (ic_tup (de_tup (da_cons (dv 4) (da_cons (dv 5) (da_cons (dv 7) da_nil))))) (blkOk_by (own := [("text", 8)]) (N := N_is_shown) (sc := defScope s_is_shown) (by decide +kernel)) (fun _ _ _ _ _ => (dg_name 8 (by decide) sc_is_shown.nd)) (fun _ _ _ _ _ => dts_nil) (fun _ _ _ _ _ => (dcall O_is_text (by exact hr.mono (by decide)) (by rfl) (da_cons (dv 8) (da_cons de_int (da_cons (de_gint (by rfl) T.c_MOST_MARK) da_nil)))))) da_nil)))) (dss_one (ds_ret de_bl)) dss_nil)
    (dss_one (ds_ret (de_and (dcall O_is_integer (by exact hr.mono (by decide)) (by rfl) (da_cons (dv 6) da_nil)) (de_one (de_chain op_le (lift_iCmp (fun i j => decide (i ≤ j))) op_le (lift_iCmp (fun i j => decide (i ≤ j))) de_int (dv 6) (de_gint (by rfl) T.c_MOST_SHOWN))))))))))
end
end Ib
set_option Elab.async false
set_option linter.all false
set_option autoImplicit false
set_option maxRecDepth 100000
set_option maxHeartbeats 4000000
/-! IbM6: styles told apart, rows of tokens. -/
namespace Ib
open PySem PySem.Spec PyProof.Rows L2 TL
variable [Tabl]
/-! ### typed -/
inductive PP where
  | mk (c : Cs) | fld (f : Cs)
def PP.toD : PP → D
  | .mk c => .tup [.str k_mark, .str c]
  | .fld f => .tup [.str f]
def PP.Ok : PP → Prop
  | .mk c => txtL 1 3 c = true
  | .fld f => f ∈ FLD
theorem PP.inj : ∀ {a b : PP}, a.toD = b.toD → a = b
  | .mk a, .mk b, h => by simp [PP.toD] at h; rw [h]
  | .mk a, .fld b, h => by simp [PP.toD] at h
  | .fld a, .mk b, h => by simp [PP.toD] at h
  | .fld a, .fld b, h => by simp [PP.toD] at h; rw [h]
inductive Pc where
  | p (x : PP) | cond (a : Cs) (t e : List PP)
def Pc.toD : Pc → D
  | .p x => x.toD
  | .cond a t e => .tup [.str k_if, .str a, .tup (t.map PP.toD), .tup (e.map PP.toD)]
def Pc.Ok : Pc → Prop
  | .p x => x.Ok
  | .cond a t e => a ∈ [k_place, k_volume] ∧ (t.length ≤ 3 ∧ ∀ x ∈ t, x.Ok) ∧ (e.length ≤ 3 ∧ ∀ x ∈ e, x.Ok)
theorem map_inj {α β : Type} {f : α → β} (h : ∀ {a b}, f a = f b → a = b) : ∀ {xs ys : List α}, xs.map f = ys.map f → xs = ys
  | [], [], _ => rfl
  | [], _ :: _, e => by simp at e
  | _ :: _, [], e => by simp at e
  | x :: xs, y :: ys, e => by
    simp only [List.map_cons, List.cons.injEq] at e
    rw [h e.1, map_inj h e.2]
theorem Pc.inj : ∀ {a b : Pc}, a.toD = b.toD → a = b
  | .p a, .p b, h => by rw [PP.inj h]
  | .p a, .cond b t e, h => by cases a <;> simp [Pc.toD, PP.toD] at h
  | .cond b t e, .p a, h => by cases a <;> simp [Pc.toD, PP.toD] at h
  | .cond a t e, .cond b t' e', h => by
    simp only [Pc.toD, D.tup.injEq, List.cons.injEq, D.str.injEq, and_true, true_and] at h
    rw [h.1, map_inj PP.inj h.2.1, map_inj PP.inj h.2.2]
structure Shown where
  given : Cs
  dotted : Bool
  gap : Cs
  join : Cs
  last : Cs
  most : Nat
  rest : Cs
def Shown.toD (s : Shown) : D := .tup [.str s.given, .bl s.dotted, .str s.gap, .str s.join, .str s.last, .int (s.most : Nat), .str s.rest]
structure Shown.Ok (s : Shown) : Prop where
  gi : s.given ∈ WAY
  ga : txtL 0 2 s.gap = true
  jo : txtL 0 3 s.join = true
  la : txtL 0 3 s.last = true
  re : txtL 0 3 s.rest = true
  m1 : 1 ≤ s.most
  m3 : s.most ≤ 3
structure Sty where
  pcs : List Pc
  shown : Shown
def Sty.toD (s : Sty) : D := .tup [.tup (s.pcs.map Pc.toD), s.shown.toD]
structure Sty.Pre (s : Sty) : Prop where
  n1 : 1 ≤ s.pcs.length
  n10 : s.pcs.length ≤ 10
  pc : ∀ x ∈ s.pcs, x.Ok
  sh : s.shown.Ok
theorem isTxt_of {lo hi : Int} {x : D} (h : isTxt lo hi x = true) : ∃ l, x = .str l ∧ txtL lo hi l = true := by
  cases x with
  | str l => exact ⟨l, rfl, h⟩
  | _ => cases h
theorem isPP_of {x : D} (h : isPP x = true) : ∃ p : PP, x = p.toD ∧ p.Ok := by
  unfold isPP at h
  split at h
  · simp only [Bool.and_eq_true, decide_eq_true_eq] at h
    obtain ⟨rfl, h⟩ := h
    obtain ⟨l, rfl, h⟩ := isTxt_of h
    exact ⟨.mk l, rfl, h⟩
  · have h := of_decide_eq_true h
    exact ⟨.fld _, rfl, h⟩
  · cases h
theorem isPPall_of {xs : List D} (h : xs.all isPP = true) : ∃ ps : List PP, xs = ps.map PP.toD ∧ ∀ p ∈ ps, p.Ok := by
  induction xs with
  | nil => exact ⟨[], rfl, fun n h => nomatch h⟩
  | cons x r ih =>
    rw [List.all_cons, Bool.and_eq_true] at h
    obtain ⟨n, rfl, h1⟩ := isPP_of h.1
    obtain ⟨ns, rfl, h2⟩ := ih h.2
    exact ⟨n :: ns, rfl, fun m hm => by
      rcases List.mem_cons.mp hm with rfl | hm
      · exact h1
      · exact h2 m hm⟩
theorem isPPs_of {x : D} (h : isPPs x = true) : ∃ ps : List PP, x = .tup (ps.map PP.toD) ∧ ps.length ≤ 3 ∧ ∀ p ∈ ps, p.Ok := by
  cases x with
  | tup xs =>
    simp only [isPPs, Bool.and_eq_true, decide_eq_true_eq] at h
    obtain ⟨ps, rfl, h2⟩ := isPPall_of h.2
    exact ⟨ps, rfl, by simpa using h.1, h2⟩
  | _ => cases h
theorem isPc_of {x : D} (h : isPc x = true) : ∃ p : Pc, x = p.toD ∧ p.Ok := by
  simp only [isPc, Bool.or_eq_true] at h
  rcases h with h | h
  · obtain ⟨p, rfl, h'⟩ := isPP_of h
    exact ⟨.p p, rfl, h'⟩
  · unfold isIf at h
    split at h
    · simp only [Bool.and_eq_true, decide_eq_true_eq] at h
      obtain ⟨rfl, ha, h1, h2⟩ := h
      obtain ⟨t, rfl, h1'⟩ := isPPs_of h1
      obtain ⟨e, rfl, h2'⟩ := isPPs_of h2
      exact ⟨.cond _ t e, rfl, ha, h1', h2'⟩
    · cases h
theorem isPcs_of {xs : List D} (h : xs.all isPc = true) : ∃ ps : List Pc, xs = ps.map Pc.toD ∧ ∀ p ∈ ps, p.Ok := by
  induction xs with
  | nil => exact ⟨[], rfl, fun n h => nomatch h⟩
  | cons x r ih =>
    rw [List.all_cons, Bool.and_eq_true] at h
    obtain ⟨n, rfl, h1⟩ := isPc_of h.1
    obtain ⟨ns, rfl, h2⟩ := ih h.2
    exact ⟨n :: ns, rfl, fun m hm => by
      rcases List.mem_cons.mp hm with rfl | hm
      · exact h1
      · exact h2 m hm⟩
theorem isShown_of {x : D} (h : isShown x = true) : ∃ s : Shown, x = s.toD ∧ s.Ok := by
  unfold isShown at h
  split at h
  · rename_i g d gap join last most rest
    simp only [Bool.and_eq_true, decide_eq_true_eq] at h
    obtain ⟨h1, h2, ⟨h3, h4, h5⟩, h6⟩ := h
    obtain ⟨gap, rfl, h2⟩ := isTxt_of h2
    obtain ⟨join, rfl, h3⟩ := isTxt_of h3
    obtain ⟨last, rfl, h4⟩ := isTxt_of h4
    obtain ⟨rest, rfl, h5⟩ := isTxt_of h5
    cases most with
    | int m =>
      simp only [btw, Bool.and_eq_true, decide_eq_true_eq] at h6
      obtain ⟨n, rfl⟩ : ∃ n : Nat, m = n := ⟨m.toNat, by omega⟩
      exact ⟨⟨g, d, gap, join, last, n, rest⟩, rfl, h1, h2, h3, h4, h5, by show 1 ≤ n; omega, by show n ≤ 3; omega⟩
    | _ => cases h6
  · cases h
theorem Shown.inj {a b : Shown} (h : a.toD = b.toD) : a = b := by
  obtain ⟨a1, a2, a3, a4, a5, a6, a7⟩ := a
  obtain ⟨b1, b2, b3, b4, b5, b6, b7⟩ := b
  simp only [Shown.toD, D.tup.injEq, List.cons.injEq, D.str.injEq, D.bl.injEq, D.int.injEq, and_true] at h
  obtain ⟨rfl, rfl, rfl, rfl, rfl, h, rfl⟩ := h
  rw [Int.ofNat.inj h]
theorem Sty.inj {a b : Sty} (h : a.toD = b.toD) : a = b := by
  obtain ⟨a1, a2⟩ := a
  obtain ⟨b1, b2⟩ := b
  simp only [Sty.toD, D.tup.injEq, List.cons.injEq, and_true] at h
  rw [map_inj Pc.inj h.1, Shown.inj h.2]
theorem Shp.inj {a b : Shp} (h : a.toD = b.toD) : a = b := by
  obtain ⟨a1, a2, a3⟩ := a
  obtain ⟨b1, b2, b3⟩ := b
  simp only [Shp.toD, D.tup.injEq, List.cons.injEq, D.int.injEq, and_true] at h
  obtain ⟨h1, h2, h3⟩ := h
  have h1 := Int.ofNat.inj h1
  subst h1
  cases a2 <;> cases a3 <;> cases b2 <;> cases b3 <;> simp [b01] at h2 h3 <;> rfl
theorem txt_le {lo hi : Int} {l : Cs} (h : txtL lo hi l = true) : (l.length : Int) ≤ hi := by
  simp only [txtL, Bool.and_eq_true, decide_eq_true_eq] at h
  exact h.1.2
/-! ### tokens -/
inductive Tok where
  | sign (c : Nat) | fam (i : Nat) | giv (i : Nat) | dot (i : Nat) | fld (f : Cs)
def Tok.toD : Tok → D
  | .sign c => .tup [.str k_sign, .str [c]]
  | .fam i => .tup [.str k_family, .int (i : Nat)]
  | .giv i => .tup [.str k_given, .int (i : Nat)]
  | .dot i => .tup [.str k_dotted, .int (i : Nat)]
  | .fld f => .tup [.str f]
theorem Tok.inj : ∀ {a b : Tok}, a.toD = b.toD → a = b := by
  intro a b h
  cases a <;> cases b <;> simp [Tok.toD] at h <;> first | rfl | (subst h; rfl) | (rw [Int.ofNat.inj h])
def toks (l : List Tok) : List D := l.map Tok.toD
@[simp] theorem toks_nil : toks [] = [] := rfl
@[simp] theorem toks_cons (x : Tok) (l : List Tok) : toks (x :: l) = x.toD :: toks l := rfl
@[simp] theorem toks_app (a b : List Tok) : toks (a ++ b) = toks a ++ toks b := by simp [toks]
@[simp] theorem toks_len (a : List Tok) : (toks a).length = a.length := by simp [toks]
def sgns (l : Cs) : List Tok := l.map Tok.sign
@[simp] theorem sgns_len (a : Cs) : (sgns a).length = a.length := by simp [sgns]
def nameTk (s : Shown) (i : Nat) : List Tok :=
  if s.given = k_none then [.fam i]
  else if s.given = k_ahead then [if s.dotted then .dot i else .giv i] ++ sgns s.gap ++ [.fam i]
  else [.fam i] ++ sgns s.gap ++ [if s.dotted then .dot i else .giv i]
def nmTk (s : Shown) (n many i : Nat) : List Tok := (if 0 < i then sgns (if i = many - 1 ∧ many = n then s.last else s.join) else []) ++ nameTk s i
def namesTk (s : Shown) (n : Nat) : List Tok := ((List.range (min n s.most)).map (nmTk s n (min n s.most))).flatten ++ (if min n s.most < n then sgns s.rest else [])
def plTk (s : Shown) (sh : Shp) : PP → List Tok
  | .mk c => sgns c
  | .fld f => if f = k_names then namesTk s sh.n else if (f = k_place ∧ sh.p = false) ∨ (f = k_volume ∧ sh.v = false) then [] else [.fld f]
def Pc.get (sh : Shp) : Pc → List PP
  | .p x => [x]
  | .cond a t e => if (if a = k_place then sh.p else sh.v) = true then t else e
def flatP (sh : Shp) (ps : List Pc) : List PP := (ps.map (Pc.get sh)).flatten
def rowTk (s : Sty) (sh : Shp) : List Tok := ((flatP sh s.pcs).map (plTk s.shown sh)).flatten
def p_signs_of : PSp := fun a R => ∃ l, a = [.str l] ∧ l.length ≤ 1000 ∧ R (.lst (toks (sgns l)))
@[simp] theorem e_signs_of (l : Cs) (R : U → Prop) : p_signs_of [.str l] R ↔ l.length ≤ 1000 ∧ R (.lst (toks (sgns l))) := by
  unfold p_signs_of
  constructor
  · rintro ⟨_, e, h⟩
    cases e
    exact h
  · exact fun h => ⟨l, rfl, h⟩
def p_name_tokens : PSp := fun a R => ∃ (s : Shown) (i : Nat), a = [s.toD, .int (i : Nat)] ∧ s.Ok ∧ R (.lst (toks (nameTk s i)))
@[simp] theorem e_name_tokens (s : Shown) (i : Nat) (R : U → Prop) : p_name_tokens [s.toD, .int (i : Nat)] R ↔ s.Ok ∧ R (.lst (toks (nameTk s i))) := by
  unfold p_name_tokens
  constructor
  · rintro ⟨s', i', e, h⟩
    simp only [List.cons.injEq, D.int.injEq, and_true] at e
    rw [Shown.inj e.1, Int.ofNat.inj e.2]
    exact h
  · exact fun h => ⟨s, i, rfl, h⟩
def p_names_tokens : PSp := fun a R => ∃ (s : Shown) (n : Nat), a = [s.toD, .int (n : Nat)] ∧ s.Ok ∧ R (.lst (toks (namesTk s n)))
@[simp] theorem e_names_tokens (s : Shown) (i : Nat) (R : U → Prop) : p_names_tokens [s.toD, .int (i : Nat)] R ↔ s.Ok ∧ R (.lst (toks (namesTk s i))) := by
  unfold p_names_tokens
  constructor
  · rintro ⟨s', i', e, h⟩
    simp only [List.cons.injEq, D.int.injEq, and_true] at e
    rw [Shown.inj e.1, Int.ofNat.inj e.2]
    exact h
  · exact fun h => ⟨s, i, rfl, h⟩
def p_plain_tokens : PSp := fun a R => ∃ (p : PP) (s : Shown) (sh : Shp), a = [p.toD, s.toD, sh.toD] ∧ p.Ok ∧ s.Ok ∧ R (.lst (toks (plTk s sh p)))
@[simp] theorem e_plain_tokens (p : PP) (s : Shown) (sh : Shp) (R : U → Prop) : p_plain_tokens [p.toD, s.toD, sh.toD] R ↔ p.Ok ∧ s.Ok ∧ R (.lst (toks (plTk s sh p))) := by
  unfold p_plain_tokens
  constructor
  · rintro ⟨p', s', i', e, h⟩
    simp only [List.cons.injEq, and_true] at e
    rw [PP.inj e.1, Shown.inj e.2.1, Shp.inj e.2.2]
    exact h
  · exact fun h => ⟨p, s, sh, rfl, h⟩
def p_plain_pieces : PSp := fun a R => ∃ (ps : List Pc) (sh : Shp), a = [.tup (ps.map Pc.toD), sh.toD] ∧ ps.length ≤ 10 ∧ (∀ x ∈ ps, x.Ok) ∧ R (.lst ((flatP sh ps).map PP.toD))
@[simp] theorem e_plain_pieces (ps : List Pc) (sh : Shp) (R : U → Prop) : p_plain_pieces [.tup (ps.map Pc.toD), sh.toD] R ↔ ps.length ≤ 10 ∧ (∀ x ∈ ps, x.Ok) ∧ R (.lst ((flatP sh ps).map PP.toD)) := by
  unfold p_plain_pieces
  constructor
  · rintro ⟨p', i', e, h⟩
    simp only [List.cons.injEq, D.tup.injEq, and_true] at e
    rw [map_inj Pc.inj e.1, Shp.inj e.2]
    exact h
  · exact fun h => ⟨ps, sh, rfl, h⟩
def p_row_of : PSp := fun a R => ∃ (s : Sty) (sh : Shp), a = [s.toD, sh.toD] ∧ s.Pre ∧ R (.d (.tup (toks (rowTk s sh))))
@[simp] theorem e_row_of (s : Sty) (sh : Shp) (R : U → Prop) : p_row_of [s.toD, sh.toD] R ↔ s.Pre ∧ R (.d (.tup (toks (rowTk s sh)))) := by
  unfold p_row_of
  constructor
  · rintro ⟨p', i', e, h⟩
    simp only [List.cons.injEq, and_true] at e
    rw [Sty.inj e.1, Shp.inj e.2]
    exact h
  · exact fun h => ⟨s, sh, rfl, h⟩
theorem len_signs_of (a : List D) (R : U → Prop) (h : p_signs_of a R) : a.length = 1 := by
  obtain ⟨x0, rfl, _⟩ := h
  rfl
theorem len_name_tokens (a : List D) (R : U → Prop) (h : p_name_tokens a R) : a.length = 2 := by
  obtain ⟨x0, x1, rfl, _⟩ := h
  rfl
theorem len_names_tokens (a : List D) (R : U → Prop) (h : p_names_tokens a R) : a.length = 2 := by
  obtain ⟨x0, x1, rfl, _⟩ := h
  rfl
theorem len_plain_tokens (a : List D) (R : U → Prop) (h : p_plain_tokens a R) : a.length = 3 := by
  obtain ⟨x0, x1, x2, rfl, _⟩ := h
  rfl
theorem len_plain_pieces (a : List D) (R : U → Prop) (h : p_plain_pieces a R) : a.length = 2 := by
  obtain ⟨x0, x1, rfl, _⟩ := h
  rfl
theorem len_row_of (a : List D) (R : U → Prop) (h : p_row_of a R) : a.length = 2 := by
  obtain ⟨x0, x1, rfl, _⟩ := h
  rfl
def ds_signs_of : DS :=
    (sRet (dLc (icS (dVar 0)) (gN 1) ttYes (dTup (dCons (dC (.str k_sign)) (dCons (dVar 1) dNil))) [1]))

def ds_name_tokens : DS :=
    (sSeq (sAsg (dSl vSlT (dVar 0) dNoP (dPart (dC (.int 3)))) (gT 3 (gsCons (gN 4) (gsCons (gN 5) (gsCons (gN 6) gsNil)))))
    (sSeq (sSet (dLst (dCons (dTup (dCons (dC (.str k_family)) (dCons (dVar 1) dNil))) dNil)) 2)
    (sSeq (sIf (dB (d2 (p2 sEq) (dVar 4) (dC (.str k_none)))) (sRet (dVar 2)) sNext)
    (sSeq (sSet (dLst (dCons (dTup (dCons (dIf (dB (dVar 5)) (dC (.str k_dotted)) (dC (.str k_given))) (dCons (dVar 1) dNil))) dNil)) 3)
    (sRet (dIf (dB (d2 (p2 sEq) (dVar 4) (dC (.str k_ahead)))) (d2 vCatL (d2 vCatL (dVar 3) (dCallP p_signs_of (dCons (dVar 6) dNil))) (dVar 2)) (d2 vCatL (d2 vCatL (dVar 2) (dCallP p_signs_of (dCons (dVar 6) dNil))) (dVar 3))))))))

def ds_names_tokens : DS :=
    (sSeq (sAsg (dVar 0) (gT 7 (gsCons (gN 5) (gsCons (gN 5) (gsCons (gN 5) (gsCons (gN 6) (gsCons (gN 7) (gsCons (gN 8) (gsCons (gN 9) gsNil)))))))))
    (sSeq (sSet (dCB (v2I fun i j => if j < i then j else i) (dCons (dVar 1) (dCons (dVar 8) dNil))) 2)
    (sSeq (sSet (dLst dNil) 3)
    (sSeq (sFor (iR (dVar 2)) (gN 4) (sSeq (sIf (dB (d2 (p2 (iCmp fun i j => decide (j < i))) (dVar 4) (dC (.int 0)))) (sExpr (dML (mMut fExtend) (dVar 3) (dCons (dCallP p_signs_of (dCons (dIf (dAnd (dB (d2 (p2 sEq) (dVar 4) (d2 (p2 (iOp fun i j => i - j)) (dVar 2) (dC (.int 1))))) (dB (d2 (p2 sEq) (dVar 2) (dVar 1)))) (dVar 7) (dVar 6)) dNil)) dNil))) sNext)
    (sExpr (dML (mMut fExtend) (dVar 3) (dCons (dCallP p_name_tokens (dCons (dVar 0) (dCons (dVar 4) dNil))) dNil)))))
    (sRet (d2 vCatL (dVar 3) (dIf (dB (d2 (p2 (iCmp fun i j => decide (i < j))) (dVar 2) (dVar 1))) (dCallP p_signs_of (dCons (dVar 9) dNil)) (dLst dNil))))))))

def ds_plain_tokens : DS :=
    (sSeq (sIf (dB (d2 (p2 sEq) (d2 vIx (dVar 0) (dC (.int 0))) (dC (.str k_mark)))) (sRet (dCallP p_signs_of (dCons (d2 vIx (dVar 0) (dC (.int 1))) dNil))) sNext)
    (sSeq (sIf (dB (d2 (p2 sEq) (d2 vIx (dVar 0) (dC (.int 0))) (dC (.str k_names)))) (sRet (dCallP p_names_tokens (dCons (dVar 1) (dCons (d2 vIx (dVar 2) (dC (.int 0))) dNil)))) sNext)
    (sSeq (sIf (dOr (dAnd (dB (d2 (p2 sEq) (d2 vIx (dVar 0) (dC (.int 0))) (dC (.str k_place)))) (dB (d2 (p2 sEq) (d2 vIx (dVar 2) (dC (.int 1))) (dC (.int 0))))) (dAnd (dB (d2 (p2 sEq) (d2 vIx (dVar 0) (dC (.int 0))) (dC (.str k_volume)))) (dB (d2 (p2 sEq) (d2 vIx (dVar 2) (dC (.int 2))) (dC (.int 0)))))) (sRet (dLst dNil)) sNext)
    (sRet (dLst (dCons (dVar 0) dNil))))))

def ds_plain_pieces : DS :=
    (sSeq (sSet (dLst dNil) 2)
    (sSeq (sFor (iT (dVar 0)) (gN 3) (sIf (dB (d2 (p2 sEq) (d2 vIx (dVar 3) (dC (.int 0))) (dC (.str k_if)))) (sSeq (sSet (dIf (dB (d2 (p2 sEq) (d2 vIx (dVar 3) (dC (.int 1))) (dC (.str k_place)))) (d2 vIx (dVar 1) (dC (.int 1))) (d2 vIx (dVar 1) (dC (.int 2)))) 4)
    (sExpr (dML (mMut fExtend) (dVar 2) (dCons (dIf (dB (d2 (p2 sEq) (dVar 4) (dC (.int 1)))) (d2 vIx (dVar 3) (dC (.int 2))) (d2 vIx (dVar 3) (dC (.int 3)))) dNil)))) (sExpr (dML (mMut fAppend) (dVar 2) (dCons (dVar 3) dNil)))))
    (sRet (dVar 2))))

def ds_row_of : DS :=
    (sSeq (sAsg (dVar 0) (gT 2 (gsCons (gN 2) (gsCons (gN 3) gsNil))))
    (sRet (dCB (vOne fTuple) (dCons (dLc2 (icL (dCallP p_plain_pieces (dCons (dVar 2) (dCons (dVar 1) dNil)))) (gN 4) (dCallP p_plain_tokens (dCons (dVar 4) (dCons (dVar 3) (dCons (dVar 1) dNil)))) (gN 5) (dVar 5) [4, 5] [5]) dNil))))
end Ib
set_option Elab.async false
set_option linter.all false
set_option autoImplicit false
set_option maxRecDepth 100000
set_option maxHeartbeats 4000000
/-! IbM7: what the defs for tokens compute. -/
namespace Ib
open PySem PySem.Spec PyProof.Rows L2 TL
variable [Tabl]
theorem ext1 {α β : Type} {enc : α → D} (inj : ∀ {a b}, enc a = enc b → a = b) (f : α → β) (d0 : β) : ∃ f' : D → β, ∀ t, f' (enc t) = f t := by
  classical
  refine ⟨fun d => if h : ∃ t, enc t = d then f h.choose else d0, fun t => ?_⟩
  have h : ∃ u, enc u = enc t := ⟨t, rfl⟩
  show (if h : ∃ u, enc u = enc t then f h.choose else d0) = f t
  rw [dif_pos h, inj h.choose_spec]
theorem sem_signs_of (a : List D) (R : U → Prop) (h : p_signs_of a R) : ds_signs_of { nx := fun _ => R (.d .non), rt := resR R } (slots N_signs_of (a.map U.d)) := by
  obtain ⟨l, rfl, hs, h⟩ := h
  refine retV ?_
  refine dLc_map (xs := signs1 l) (ok := fun _ => True) (fun d => .tup [.str k_sign, d]) (fun R' h => h) trivial (free1 rfl) (by rw [signs1_len]; exact thou hs) (fun x hx P hP => ?_) ?_
  · obtain ⟨c, _, rfl⟩ := mem_signs1 hx
    exact ⟨mill (by simp), hP _ rfl⟩
  · have e : (signs1 l).map (fun d => D.tup [.str k_sign, d]) = toks (sgns l) := by
      simp [signs1, toks, sgns, Tok.toD, Function.comp]
    rw [e]
    exact h
theorem sem_name_tokens (a : List D) (R : U → Prop) (h : p_name_tokens a R) : ds_name_tokens { nx := fun _ => R (.d .non), rt := resR R } (slots N_name_tokens (a.map U.d)) := by
  obtain ⟨s, i, rfl, ok, h⟩ := h
  obtain ⟨g, d, gap, join, last, most, rest⟩ := s
  have hg := txt_le ok.ga
  have hw := ok.gi
  simp only [nameTk] at h hg hw
  have z := sizeLine_eq
  simp only [ds_name_tokens, Shown.toD]
  simp
  refine ⟨by omega, by omega, ifB_of (fun e => ?_) fun e => ?_⟩
  · rw [if_pos (of_decide_eq_true e)] at h
    exact h
  · rw [if_neg (of_decide_eq_false e)] at h
    cases d <;> refine ⟨by omega, by omega, ifB_of (fun e => ?_) fun e => ?_⟩
    · rw [if_pos (of_decide_eq_true e)] at h
      exact ⟨by omega, by omega, by omega, by simpa [Tok.toD] using h⟩
    · rw [if_neg (of_decide_eq_false e)] at h
      exact ⟨by omega, by omega, by omega, by simpa [Tok.toD] using h⟩
    · rw [if_pos (of_decide_eq_true e)] at h
      exact ⟨by omega, by omega, by omega, by simpa [Tok.toD] using h⟩
    · rw [if_neg (of_decide_eq_false e)] at h
      exact ⟨by omega, by omega, by omega, by simpa [Tok.toD] using h⟩
theorem nameTk_len {s : Shown} (ok : s.Ok) (i : Nat) : (nameTk s i).length ≤ 4 := by
  have hg := txt_le ok.ga
  unfold nameTk
  split
  · simp
  · split <;> simp <;> omega
theorem nmTk_len {s : Shown} (ok : s.Ok) (n many i : Nat) : (nmTk s n many i).length ≤ 7 := by
  have := nameTk_len ok i
  have h1 := txt_le ok.la
  have h2 := txt_le ok.jo
  unfold nmTk
  split
  · split <;> simp <;> omega
  · simp; omega
theorem flat_len {α β : Type} {f : α → List β} {k : Nat} : ∀ {xs : List α}, (∀ x ∈ xs, (f x).length ≤ k) → ((xs.map f).flatten).length ≤ k * xs.length
  | [], _ => by simp
  | x :: r, h => by
    have := flat_len (xs := r) fun y hy => h y (by simp [hy])
    have := h x (by simp)
    simp only [List.map_cons, List.flatten_cons, List.length_append, List.length_cons, Nat.mul_add, Nat.mul_one]
    omega
theorem sem_names_tokens (a : List D) (R : U → Prop) (h : p_names_tokens a R) : ds_names_tokens { nx := fun _ => R (.d .non), rt := resR R } (slots N_names_tokens (a.map U.d)) := by
  obtain ⟨s, n, rfl, ok, h⟩ := h
  have z := sizeLine_eq
  have hl := txt_le ok.la
  have hj := txt_le ok.jo
  have hr := txt_le ok.re
  have hm := ok.m3
  have hmin : (if (s.most : Int) < (n : Int) then (s.most : Int) else (n : Int)) = ((min n s.most : Nat) : Int) := by
    split <;> omega
  obtain ⟨f, hf⟩ : ∃ f : Nat → List Tok, f = nmTk s n (min n s.most) := ⟨_, rfl⟩
  have fl : ∀ i, (f i).length ≤ 7 := fun i => by rw [hf]; exact nmTk_len ok _ _ _
  have fl2 : ∀ i, (((List.range i).map f).flatten).length ≤ 7 * i := fun i => by
    have := flat_len (xs := List.range i) (f := f) (k := 7) fun x _ => fl x
    simpa using this
  unfold namesTk at h
  rw [← hf] at h
  simp only [ds_names_tokens, sSeq, sAsg, dVar]
  refine ⟨rfl, ?_⟩
  generalize hM : min n s.most = m at *
  have m3 : m ≤ 3 := by omega
  dsimp only [gsCons, gN, gsNil, sSet, dCB, dCons, dNil, dVar, v2I]
  refine ⟨rfl, ?_⟩
  simp only [Shown.toD]
  simp
  refine ⟨_, _, ⟨rfl, rfl⟩, ?_⟩
  rw [hmin]
  rw [show D.tup [D.str s.given, D.bl s.dotted, D.str s.gap, D.str s.join, D.str s.last, D.int s.most, D.str s.rest] = s.toD from rfl]
  unfold sFor
  refine ⟨by omega, by omega, fun i δ => i ≤ m ∧ ∃ p, δ = [some (.d s.toD), some (.d (.int (n : Nat))), some (.d (.int (m : Nat))), some (.lst (toks (((List.range i).map f).flatten))), p, some (.d (.str s.gap)), some (.d (.str s.join)), some (.d (.str s.last)), some (.d (.int (s.most : Nat))), some (.d (.str s.rest))], ⟨Nat.zero_le _, none, rfl⟩, ?_, ?_⟩
  · rintro i x δ hx ⟨hi, p, rfl⟩
    obtain ⟨j, rfl, hj'⟩ : ∃ j : Nat, x = .int (j : Nat) ∧ i = j ∧ j < m := by
      rw [show ((m : Int).toNat) = m by omega, rngD, List.getElem?_map] at hx
      cases q : (List.range m)[i]? with
      | none => rw [q] at hx; cases hx
      | some w =>
        rw [q] at hx
        cases hx
        obtain ⟨h1, h2⟩ := List.getElem?_eq_some_iff.mp q
        simp at h1 h2
        exact ⟨w, rfl, h2, by omega⟩
    obtain ⟨rfl, hlt⟩ := hj'
    have f1 := fl2 i
    have f2 := fl i
    have step : ((List.range (i + 1)).map f).flatten = ((List.range i).map f).flatten ++ f i := by simp [List.range_succ]
    have fi : f i = (if 0 < i then sgns (if i = m - 1 ∧ m = n then s.last else s.join) else []) ++ nameTk s i := by rw [hf]; rfl
    have nl := nameTk_len ok i
    have hlen : (rngD (m : Int).toNat).length = m := by simp [rngD]
    simp only [step]
    generalize ((List.range i).map f).flatten = acc at f1
    simp
    refine ifB_of (fun e => ?_) fun e => ?_
    · have e : 0 < i := by have := of_decide_eq_true e; omega
      rw [if_pos e] at fi
      refine ifB_of (fun e1 => ?_) fun e1 => ?_
      · have e1 := of_decide_eq_true e1
        refine ifB_of (fun e2 => ?_) fun e2 => ?_
        · have e2 := of_decide_eq_true e2
          rw [if_pos (by omega)] at fi
          refine ⟨by omega, ?_⟩
          rw [if_pos (by omega)]
          refine ⟨ok, ?_⟩
          rw [if_pos (by simp; omega)]
          exact ⟨by omega, by rw [fi]; simp⟩
        · have e2 := of_decide_eq_false e2
          rw [if_neg (by omega)] at fi
          refine ⟨by omega, ?_⟩
          rw [if_pos (by omega)]
          refine ⟨ok, ?_⟩
          rw [if_pos (by simp; omega)]
          exact ⟨by omega, by rw [fi]; simp⟩
      · have e1 := of_decide_eq_false e1
        rw [if_neg (by omega)] at fi
        refine ⟨by omega, ?_⟩
        rw [if_pos (by omega)]
        refine ⟨ok, ?_⟩
        rw [if_pos (by simp; omega)]
        exact ⟨by omega, by rw [fi]; simp⟩
    · have e : ¬ 0 < i := by have := of_decide_eq_false e; omega
      rw [if_neg e] at fi
      refine ⟨ok, ?_⟩
      rw [if_pos (by omega)]
      exact ⟨by omega, by rw [fi]; simp⟩
  · rintro δ ⟨_, p, rfl⟩
    have hlen : (rngD (m : Int).toNat).length = m := by simp [rngD]
    rw [hlen]
    have f1 := fl2 m
    generalize ((List.range m).map f).flatten = acc at f1 h
    simp
    refine ifB_of (fun e => ?_) fun e => ?_
    · have e := of_decide_eq_true e
      rw [if_pos (by omega)] at h
      exact ⟨by omega, by omega, by simpa using h⟩
    · have e := of_decide_eq_false e
      rw [if_neg (by omega)] at h
      simp at h ⊢
      exact ⟨by omega, h⟩
theorem sem_plain_tokens (a : List D) (R : U → Prop) (h : p_plain_tokens a R) : ds_plain_tokens { nx := fun _ => R (.d .non), rt := resR R } (slots N_plain_tokens (a.map U.d)) := by
  obtain ⟨p, s, sh, rfl, okp, ok, h⟩ := h
  cases p with
  | mk c =>
    have hl := txt_le okp
    simp [ds_plain_tokens, PP.toD]
    exact ⟨by omega, h⟩
  | fld f =>
    simp only [plTk] at h
    obtain ⟨n, p, v⟩ := sh
    have okf : f ∈ FLD := okp
    have hk : f ≠ k_mark := fun z => by subst z; exact absurd okf (by decide)
    simp [ds_plain_tokens, PP.toD, Shp.toD, hk]
    refine ifB_of (fun e => ?_) fun e => ?_
    · rw [if_pos (of_decide_eq_true e)] at h
      exact ⟨ok, h⟩
    · rw [if_neg (of_decide_eq_false e)] at h
      have z1 : 1 ≤ sizeLine := mill (by decide)
      by_cases hp : f = k_place
      · subst hp
        cases p <;> cases v <;> simp [b01, ifB, z1, Tok.toD] at h ⊢ <;> exact h
      · by_cases hv : f = k_volume
        · subst hv
          cases p <;> cases v <;> simp [b01, ifB, z1, Tok.toD] at h ⊢ <;> exact h
        · simp [hp, hv, ifB, z1, Tok.toD] at h ⊢
          exact h
theorem sem_plain_pieces (a : List D) (R : U → Prop) (h : p_plain_pieces a R) : ds_plain_pieces { nx := fun _ => R (.d .non), rt := resR R } (slots N_plain_pieces (a.map U.d)) := by
  obtain ⟨ps, sh, rfl, hl, ok, h⟩ := h
  have z := sizeLine_eq
  unfold flatP at h
  have fl : ∀ qs : List Pc, (∀ x ∈ qs, x.Ok) → ((qs.map (Pc.get sh)).flatten).length ≤ 3 * qs.length := fun qs hq => flat_len fun x hx => by
    have := hq x hx
    cases x with
    | p x => simp [Pc.get]
    | cond a t e =>
      obtain ⟨_, h1, h2⟩ := this
      simp only [Pc.get]
      split <;> split <;> first | exact h1.1 | exact h2.1
  simp only [ds_plain_pieces, sSeq, sSet, dLst, dNil, allD]
  refine ⟨by simp, ?_⟩
  unfold sFor
  refine ⟨fun i δ => i ≤ ps.length ∧ ∃ p q, δ = [some (.d (.tup (ps.map Pc.toD))), some (.d sh.toD), some (.lst ((((ps.take i).map (Pc.get sh)).flatten).map PP.toD)), p, q], ⟨Nat.zero_le _, none, none, rfl⟩, ?_, ?_⟩
  · rintro i x δ hx ⟨hi, p, q, rfl⟩
    rw [List.getElem?_map] at hx
    cases e : ps[i]? with
    | none => rw [e] at hx; cases hx
    | some y =>
      rw [e] at hx
      cases hx
      have hlt : i < ps.length := (List.getElem?_eq_some_iff.mp e).1
      have oky := ok y (List.mem_of_getElem? e)
      have f1 := fl (ps.take i) fun x hx => ok x (List.mem_of_mem_take hx)
      have step : (((ps.take (i + 1)).map (Pc.get sh)).flatten) = (((ps.take i).map (Pc.get sh)).flatten) ++ Pc.get sh y := by
        rw [List.take_add_one, e]
        simp
      simp only [step]
      rw [List.length_take] at f1
      generalize ((ps.take i).map (Pc.get sh)).flatten = acc at f1
      cases y with
      | p x =>
        cases x with
        | mk c =>
          simp [Pc.toD, PP.toD, Pc.get]
          rw [if_pos (by omega)]
          simp [PP.toD]
          omega
        | fld f =>
          have okf : f ∈ FLD := oky
          have : f ≠ k_if := fun z => by subst z; exact absurd okf (by decide)
          simp [Pc.toD, PP.toD, Pc.get, this]
          rw [if_pos (by omega)]
          simp [PP.toD]
          omega
      | cond a t e' =>
        obtain ⟨n, p, v⟩ := sh
        obtain ⟨ha, ⟨ht, _⟩, he, _⟩ := oky
        simp [Pc.toD, Shp.toD, Pc.get]
        have t1 : acc.length + t.length ≤ sizeLine := by omega
        have t2 : acc.length + e'.length ≤ sizeLine := by omega
        simp only [if_pos t1, if_pos t2]
        refine ifB_of (fun e1 => ?_) fun e1 => ?_
        · have e1 := of_decide_eq_true e1
          refine ifB_of (fun e2 => ?_) fun e2 => ?_
          · have : p = true := by cases p <;> simp [b01] at e2 ⊢
            exact ⟨by omega, by simp [e1, this]⟩
          · have : p = false := by cases p <;> simp [b01] at e2 ⊢
            exact ⟨by omega, by simp [e1, this]⟩
        · have e1 := of_decide_eq_false e1
          refine ifB_of (fun e2 => ?_) fun e2 => ?_
          · have : v = true := by cases v <;> simp [b01] at e2 ⊢
            exact ⟨by omega, by simp [e1, this]⟩
          · have : v = false := by cases v <;> simp [b01] at e2 ⊢
            exact ⟨by omega, by simp [e1, this]⟩
  · rintro δ ⟨_, p, q, rfl⟩
    rw [List.length_map, List.take_length]
    exact h
theorem namesTk_len {s : Shown} (ok : s.Ok) (n : Nat) : (namesTk s n).length ≤ 24 := by
  have h1 := flat_len (xs := List.range (min n s.most)) (f := nmTk s n (min n s.most)) (k := 7) fun x _ => nmTk_len ok _ _ _
  have h2 := txt_le ok.re
  have h3 := ok.m3
  unfold namesTk
  rw [List.length_append]
  rw [List.length_range] at h1
  split
  · rw [sgns_len]; omega
  · simp only [List.length_nil]; omega
theorem plTk_len {s : Shown} {sh : Shp} (ok : s.Ok) (p : PP) (hp : p.Ok) : (plTk s sh p).length ≤ 24 := by
  cases p with
  | mk c => have := txt_le hp; simp [plTk]; omega
  | fld f =>
    unfold plTk
    dsimp only
    split
    · exact namesTk_len ok _
    · split <;> simp
theorem get_len {sh : Shp} {x : Pc} (h : x.Ok) : (Pc.get sh x).length ≤ 3 := by
  cases x with
  | p x => simp [Pc.get]
  | cond a t e =>
    obtain ⟨_, h1, h2⟩ := h
    simp only [Pc.get]
    split <;> split <;> first | exact h1.1 | exact h2.1
theorem get_ok {sh : Shp} {x : Pc} (h : x.Ok) : ∀ p ∈ Pc.get sh x, p.Ok := by
  cases x with
  | p x => intro p hp; simp [Pc.get] at hp; subst hp; exact h
  | cond a t e =>
    obtain ⟨_, h1, h2⟩ := h
    simp only [Pc.get]
    split <;> split <;> first | exact h1.2 | exact h2.2
theorem flatP_len {sh : Shp} {ps : List Pc} (hl : ps.length ≤ 10) (h : ∀ x ∈ ps, x.Ok) : (flatP sh ps).length ≤ 30 := by
  have := flat_len (xs := ps) (f := Pc.get sh) (k := 3) fun x hx => get_len (h x hx)
  unfold flatP
  omega
theorem flatP_ok {sh : Shp} {ps : List Pc} (h : ∀ x ∈ ps, x.Ok) : ∀ p ∈ flatP sh ps, p.Ok := by
  intro p hp
  unfold flatP at hp
  rw [List.mem_flatten] at hp
  obtain ⟨l, hl, hp⟩ := hp
  obtain ⟨x, hx, rfl⟩ := List.mem_map.mp hl
  exact get_ok (h x hx) p hp
theorem row_len {s : Sty} {sh : Shp} (h : s.Pre) : (rowTk s sh).length ≤ 720 := by
  have h1 := flatP_len (sh := sh) h.n10 h.pc
  have h2 := flat_len (xs := flatP sh s.pcs) (f := plTk s.shown sh) (k := 24) fun x hx => plTk_len h.sh x (flatP_ok h.pc x hx)
  unfold rowTk
  omega
theorem sem_row_of (a : List D) (R : U → Prop) (h : p_row_of a R) : ds_row_of { nx := fun _ => R (.d .non), rt := resR R } (slots N_row_of (a.map U.d)) := by
  obtain ⟨s, sh, rfl, pre, h⟩ := h
  have rl := row_len (sh := sh) pre
  obtain ⟨pcs, s⟩ := s
  obtain ⟨f, hf⟩ := ext1 PP.inj (fun p => toks (plTk s sh p)) []
  have e : ((flatP sh pcs).map PP.toD).map f = (flatP sh pcs).map fun p => toks (plTk s sh p) := by
    rw [List.map_map]
    exact List.map_congr_left fun p _ => hf p
  have e2 : (((flatP sh pcs).map PP.toD).map f).flatten = toks (rowTk ⟨pcs, s⟩ sh) := by
    rw [e]
    unfold rowTk toks
    rw [List.map_flatten, List.map_map]
    rfl
  simp only [ds_row_of, sSeq, sAsg, dVar]
  refine ⟨rfl, ?_⟩
  dsimp only [gsCons, gN, gsNil]
  refine ⟨rfl, ?_⟩
  simp only [sRet, dCB, dCons]
  refine dLc2_flat (xs := (flatP sh pcs).map PP.toD) (ok := fun _ => True) f (fun R' h => ?_) trivial (free2 rfl rfl) (by rw [e2]; simp; exact thou (by omega)) (fun x hx P hP => ?_) ?_
  · simp
    exact ⟨pre.n10, pre.pc, h⟩
  · obtain ⟨p, hp, rfl⟩ := List.mem_map.mp hx
    simp
    refine ⟨flatP_ok pre.pc p hp, pre.sh, ?_⟩
    rw [hf] at hP
    refine hP _ rfl ?_ ?_
    · exact free1 rfl
    · intro y hy P' hP'
      exact hP' _ rfl
  · rw [e2]
    simp
    exact h
section
variable {P : Program} {w : World} {K : PySem.W.Frag} {mg : Str → Option Value} {base : Heap}
theorem ok_signs_of (T : Txt K mg) (F : Df K mg "signs_of" s_signs_of) : Ok P w K mg base 1 "signs_of" ["text"] (spP K p_signs_of) := by
  obtain ⟨f, fd, F, g⟩ := F
  refine ⟨f, fd, fnP F sc_signs_of (fun a R h => len_signs_of a R h) (by decide) (ds := ds_signs_of) (fun cdv A outer s H E hr => ?_) sem_signs_of, g, F.kp, F.binds fun _ _ _ _ _ _ us hl => match us, hl with | [_], _ => rfl⟩
  exact (dss_one (ds_ret (de_lc (own := [("sign", 1)]) rfl sc_signs_of.nd (ic_str (dv 0)) (blkOk_by (own := [("sign", 1)]) (N := N_signs_of) (sc := defScope s_signs_of) (by decide +kernel)) (fun _ _ _ _ _ => (dg_name 1 (by decide) sc_signs_of.nd)) (fun _ _ _ _ _ => dts_nil) (fun _ _ _ _ _ => (de_tup (da_cons (de_str e_sign) (da_cons (dv 1) da_nil)))))))

theorem ok_name_tokens (T : Txt K mg) (F : Df K mg "name_tokens" s_name_tokens) (O_signs_of : Ok P w K mg base 1 "signs_of" ["text"] (spP K p_signs_of)) : Ok P w K mg base 2 "name_tokens" ["shown", "i"] (spP K p_name_tokens) := by
  obtain ⟨f, fd, F, g⟩ := F
  refine ⟨f, fd, fnP F sc_name_tokens (fun a R h => len_name_tokens a R h) (by decide) (ds := ds_name_tokens) (fun cdv A outer s H E hr => ?_) sem_name_tokens, g, F.kp, F.binds fun _ _ _ _ _ _ us hl => match us, hl with | [_, _], _ => rfl⟩
  exact (dss_cons (ds_asg (de_slice sl_tupF lift_slT (dv 0) do_none (do_some de_int)) (dg_tup rfl (dgs_cons (dg_name 4 (by decide) sc_name_tokens.nd) (dgs_cons (dg_name 5 (by decide) sc_name_tokens.nd) (dgs_cons (dg_name 6 (by decide) sc_name_tokens.nd) dgs_nil)))))
    (dss_cons (ds_set 2 (by decide) sc_name_tokens.nd (de_lst (da_cons (de_tup (da_cons (de_str e_family) (da_cons (dv 1) da_nil))) da_nil)))
    (dss_cons (ds_if (dt_cmp op_eq lift_eq (dv 4) (de_str e_none) (nomark _)) (dss_one (ds_ret (dv 2))) dss_nil)
    (dss_cons (ds_set 3 (by decide) sc_name_tokens.nd (de_lst (da_cons (de_tup (da_cons (de_ifExp (dt_val (dv 5)) (de_str e_dotted) (de_str e_given)) (da_cons (dv 1) da_nil))) da_nil)))
    (dss_one (ds_ret (de_ifExp (dt_cmp op_eq lift_eq (dv 4) (de_str e_ahead) (nomark _)) (de_op op_cat lift_catL (de_op op_cat lift_catL (dv 3) (dcall O_signs_of (by exact hr.mono (by decide)) (by rfl) (da_cons (dv 6) da_nil))) (dv 2)) (de_op op_cat lift_catL (de_op op_cat lift_catL (dv 2) (dcall O_signs_of (by exact hr.mono (by decide)) (by rfl) (da_cons (dv 6) da_nil))) (dv 3)))))))))

theorem ok_names_tokens (T : Txt K mg) (F : Df K mg "names_tokens" s_names_tokens) (O_signs_of : Ok P w K mg base 1 "signs_of" ["text"] (spP K p_signs_of)) (O_name_tokens : Ok P w K mg base 2 "name_tokens" ["shown", "i"] (spP K p_name_tokens)) : Ok P w K mg base 3 "names_tokens" ["shown", "n"] (spP K p_names_tokens) := by
  obtain ⟨f, fd, F, g⟩ := F
  refine ⟨f, fd, fnP F sc_names_tokens (fun a R h => len_names_tokens a R h) (by decide) (ds := ds_names_tokens) (fun cdv A outer s H E hr => ?_) sem_names_tokens, g, F.kp, F.binds fun _ _ _ _ _ _ us hl => match us, hl with | [_, _], _ => rfl⟩
  exact (dss_cons (ds_asg (dv 0) (dg_tup rfl (dgs_cons (dg_name 5 (by decide) sc_names_tokens.nd) (dgs_cons (dg_name 5 (by decide) sc_names_tokens.nd) (dgs_cons (dg_name 5 (by decide) sc_names_tokens.nd) (dgs_cons (dg_name 6 (by decide) sc_names_tokens.nd) (dgs_cons (dg_name 7 (by decide) sc_names_tokens.nd) (dgs_cons (dg_name 8 (by decide) sc_names_tokens.nd) (dgs_cons (dg_name 9 (by decide) sc_names_tokens.nd) dgs_nil)))))))))
    (dss_cons (ds_set 2 (by decide) sc_names_tokens.nd (de_callB (call_min2 rfl) lift_min (by rfl) T.m_min (by decide +kernel) (da_cons (dv 1) (da_cons (dv 8) da_nil))))
    (dss_cons (ds_set 3 (by decide) sc_names_tokens.nd (de_lst da_nil))
    (dss_cons (ds_for PassesOwn.never rfl (di_rng (by rfl) T.m_range (dv 2)) (dg_name 4 (by decide) sc_names_tokens.nd) (dss_cons (ds_if (dt_cmp op_gt (lift_iCmp (fun i j => decide (j < i))) (dv 4) de_int (nomark _)) (dss_one (ds_expr (de_ml PySem.F.slot_list_extend PySem.F.type_list_extend mt_ext2 lift_extend (dv 3) (da_cons (dcall O_signs_of (by exact hr.mono (by decide)) (by rfl) (da_cons (de_ifExp (PW.pt (dw_and (dt_cmp op_eq lift_eq (dv 4) (de_op op_sub (lift_iOp fun i j => i - j) (dv 2) de_int) (nomark _)) (dw_and1 (dt_cmp op_eq lift_eq (dv 2) (dv 1) (nomark _))))) (dv 7) (dv 6)) da_nil)) da_nil)))) dss_nil)
    (dss_one (ds_expr (de_ml PySem.F.slot_list_extend PySem.F.type_list_extend mt_ext2 lift_extend (dv 3) (da_cons (dcall O_name_tokens (by exact hr.mono (by decide)) (by rfl) (da_cons (dv 0) (da_cons (dv 4) da_nil))) da_nil))))))
    (dss_one (ds_ret (de_op op_cat lift_catL (dv 3) (de_ifExp (dt_cmp op_lt (lift_iCmp (fun i j => decide (i < j))) (dv 2) (dv 1) (nomark _)) (dcall O_signs_of (by exact hr.mono (by decide)) (by rfl) (da_cons (dv 9) da_nil)) (de_lst da_nil)))))))))

theorem ok_plain_tokens (T : Txt K mg) (F : Df K mg "plain_tokens" s_plain_tokens) (O_signs_of : Ok P w K mg base 1 "signs_of" ["text"] (spP K p_signs_of)) (O_names_tokens : Ok P w K mg base 3 "names_tokens" ["shown", "n"] (spP K p_names_tokens)) : Ok P w K mg base 4 "plain_tokens" ["piece", "shown", "shape"] (spP K p_plain_tokens) := by
  obtain ⟨f, fd, F, g⟩ := F
  refine ⟨f, fd, fnP F sc_plain_tokens (fun a R h => len_plain_tokens a R h) (by decide) (ds := ds_plain_tokens) (fun cdv A outer s H E hr => ?_) sem_plain_tokens, g, F.kp, F.binds fun _ _ _ _ _ _ us hl => match us, hl with | [_, _, _], _ => rfl⟩
  exact (dss_cons (ds_if (dt_cmp op_eq lift_eq (de_ix ix_seq lift_ix (dv 0) de_int) (de_str e_mark) (nomark _)) (dss_one (ds_ret (dcall O_signs_of (by exact hr.mono (by decide)) (by rfl) (da_cons (de_ix ix_seq lift_ix (dv 0) de_int) da_nil)))) dss_nil)
    (dss_cons (ds_if (dt_cmp op_eq lift_eq (de_ix ix_seq lift_ix (dv 0) de_int) (de_str e_names) (nomark _)) (dss_one (ds_ret (dcall O_names_tokens (by exact hr.mono (by decide)) (by rfl) (da_cons (dv 1) (da_cons (de_ix ix_seq lift_ix (dv 2) de_int) da_nil))))) dss_nil)
    (dss_cons (ds_if (PW.pt (dw_or (PW.pt (dw_and (dt_cmp op_eq lift_eq (de_ix ix_seq lift_ix (dv 0) de_int) (de_str e_place) (nomark _)) (dw_and1 (dt_cmp op_eq lift_eq (de_ix ix_seq lift_ix (dv 2) de_int) de_int (nomark _))))) (dw_or1 (PW.pt (dw_and (dt_cmp op_eq lift_eq (de_ix ix_seq lift_ix (dv 0) de_int) (de_str e_volume) (nomark _)) (dw_and1 (dt_cmp op_eq lift_eq (de_ix ix_seq lift_ix (dv 2) de_int) de_int (nomark _)))))))) (dss_one (ds_ret (de_lst da_nil))) dss_nil)
    (dss_one (ds_ret (de_lst (da_cons (dv 0) da_nil)))))))

theorem ok_plain_pieces (T : Txt K mg) (F : Df K mg "plain_pieces" s_plain_pieces) : Ok P w K mg base 1 "plain_pieces" ["pieces", "shape"] (spP K p_plain_pieces) := by
  obtain ⟨f, fd, F, g⟩ := F
  refine ⟨f, fd, fnP F sc_plain_pieces (fun a R h => len_plain_pieces a R h) (by decide) (ds := ds_plain_pieces) (fun cdv A outer s H E hr => ?_) sem_plain_pieces, g, F.kp, F.binds fun _ _ _ _ _ _ us hl => match us, hl with | [_, _], _ => rfl⟩
  exact (dss_cons (ds_set 2 (by decide) sc_plain_pieces.nd (de_lst da_nil))
    (dss_cons (ds_for PassesOwn.never rfl (di_tup (dv 0)) (dg_name 3 (by decide) sc_plain_pieces.nd) (dss_one (ds_if (dt_cmp op_eq lift_eq (de_ix ix_seq lift_ix (dv 3) de_int) (de_str e_if) (nomark _)) (dss_cons (ds_set 4 (by decide) sc_plain_pieces.nd (de_ifExp (dt_cmp op_eq lift_eq (de_ix ix_seq lift_ix (dv 3) de_int) (de_str e_place) (nomark _)) (de_ix ix_seq lift_ix (dv 1) de_int) (de_ix ix_seq lift_ix (dv 1) de_int)))
    (dss_one (ds_expr (de_ml PySem.F.slot_list_extend PySem.F.type_list_extend mt_ext2 lift_extend (dv 2) (da_cons (de_ifExp (dt_cmp op_eq lift_eq (dv 4) de_int (nomark _)) (de_ix ix_seq lift_ix (dv 3) de_int) (de_ix ix_seq lift_ix (dv 3) de_int)) da_nil))))) (dss_one (ds_expr (de_ml PySem.F.slot_list_append PySem.F.type_list_append mt_append lift_append (dv 2) (da_cons (dv 3) da_nil)))))))
    (dss_one (ds_ret (dv 2)))))

theorem ok_row_of (T : Txt K mg) (F : Df K mg "row_of" s_row_of) (O_plain_pieces : Ok P w K mg base 1 "plain_pieces" ["pieces", "shape"] (spP K p_plain_pieces)) (O_plain_tokens : Ok P w K mg base 4 "plain_tokens" ["piece", "shown", "shape"] (spP K p_plain_tokens)) : Ok P w K mg base 5 "row_of" ["style", "shape"] (spP K p_row_of) := by
  obtain ⟨f, fd, F, g⟩ := F
  refine ⟨f, fd, fnP F sc_row_of (fun a R h => len_row_of a R h) (by decide) (ds := ds_row_of) (fun cdv A outer s H E hr => ?_) sem_row_of, g, F.kp, F.binds fun _ _ _ _ _ _ us hl => match us, hl with | [_, _], _ => rfl⟩
  exact (dss_cons (ds_asg (dv 0) (dg_tup rfl (dgs_cons (dg_name 2 (by decide) sc_row_of.nd) (dgs_cons (dg_name 3 (by decide) sc_row_of.nd) dgs_nil))))
    (dss_one (ds_ret (de_callTy call_tupleF lift_tuple (by rfl) T.m_tuple (by decide +kernel) (da_cons (de_lc2 (own := [("piece", 4), ("token", 5)]) (vs1 := [5]) rfl sc_row_of.nd (ic_lst (dcall O_plain_pieces (by exact hr.mono (by decide)) (by rfl) (da_cons (dv 2) (da_cons (dv 1) da_nil)))) (blkOk_by (own := [("piece", 4), ("token", 5)]) (N := N_row_of) (sc := defScope s_row_of) (by decide +kernel)) (by decide) (fun _ _ _ _ _ => (dg_name 4 (by decide) sc_row_of.nd)) (fun _ _ _ _ _ => (dcall O_plain_tokens (by exact hr.mono (by decide)) (by rfl) (da_cons (dv 4) (da_cons (dv 3) (da_cons (dv 1) da_nil))))) (fun _ _ _ _ _ => (dg_name 5 (by decide) sc_row_of.nd)) (fun _ _ _ _ _ => (dv 5))) da_nil)))))
end
end Ib
set_option Elab.async false
set_option linter.all false
set_option autoImplicit false
set_option maxRecDepth 100000
set_option maxHeartbeats 4000000
/-! IbM8: styles; tokens set. -/
namespace Ib
open PySem PySem.Spec PyProof.Rows L2 TL
variable [Tabl]
theorem numI_nat : ∀ n : Fin 3000, (numI ((n : Nat) : Int)).length ≤ 4 := by decide +kernel
theorem numI_len {i : Int} (h0 : 0 ≤ i) (h1 : i ≤ 2999) : (numI i).length ≤ 4 := by
  have := numI_nat ⟨i.toNat, by omega⟩
  rwa [show (((⟨i.toNat, by omega⟩ : Fin 3000) : Nat) : Int) = i by show ((i.toNat : Nat) : Int) = i; omega] at this
def Tok.isSign : Tok → Bool
  | .sign _ => true
  | _ => false
/-- no token but a sign comes twice -/
def NoT (l : List Tok) : Prop := (l.filter fun t => !t.isSign).Nodup
def SHPS : List Shp := [⟨1, false, false⟩, ⟨1, false, true⟩, ⟨1, true, false⟩, ⟨1, true, true⟩, ⟨2, false, false⟩, ⟨2, false, true⟩, ⟨2, true, false⟩, ⟨2, true, true⟩, ⟨3, false, false⟩, ⟨3, false, true⟩, ⟨3, true, false⟩, ⟨3, true, true⟩]
theorem D_SHAPES_eq : D_SHAPES = .tup (SHPS.map Shp.toD) := rfl
structure Sty.Ok (s : Sty) : Prop where
  pre : s.Pre
  rows : ∀ sh ∈ SHPS, NoT (rowTk s sh)
noncomputable def noTw (l : List Tok) : Bool := ndB (toks (l.filter fun t => !t.isSign))
theorem noTw_iff (l : List Tok) : noTw l = true ↔ NoT l := by
  unfold noTw NoT
  rw [ndB_iff]
  unfold toks List.Nodup
  rw [List.pairwise_map]
  exact ⟨fun h => h.imp fun h e => h (by rw [e]), fun h => h.imp fun h e => h (Tok.inj e)⟩
def Tok.okF : Tok → Prop
  | .fld f => f ∈ FLD
  | _ => True
theorem okF_sgn {l : Cs} {t : Tok} (h : t ∈ sgns l) : t.okF := by
  obtain ⟨x, _, rfl⟩ := List.mem_map.mp h
  trivial
theorem name_mem {s : Shown} {i : Nat} {t : Tok} (ht : t ∈ nameTk s i) : t = .fam i ∨ t = .giv i ∨ t = .dot i ∨ t ∈ sgns s.gap := by
  unfold nameTk at ht
  split at ht
  · simp at ht; exact .inl ht
  · cases hd : s.dotted <;> simp only [hd] at ht <;> split at ht <;> simp at ht <;> rcases ht with h | h | h <;> simp [h]
def Row (l : List Tok) : Prop := ∀ t ∈ l, t.okF
def p_has_no_twice : PSp := fun a R => ∃ l : List Tok, a = [.tup (toks l)] ∧ l.length ≤ 1000 ∧ Row l ∧ R (.d (.bl (noTw l)))
@[simp] theorem e_has_no_twice (l : List Tok) (R : U → Prop) : p_has_no_twice [.tup (toks l)] R ↔ l.length ≤ 1000 ∧ Row l ∧ R (.d (.bl (noTw l))) := by
  unfold p_has_no_twice
  constructor
  · rintro ⟨l', e, h⟩
    simp only [List.cons.injEq, D.tup.injEq, and_true] at e
    rw [map_inj Tok.inj e]
    exact h
  · exact fun h => ⟨l, rfl, h⟩
theorem len_has_no_twice (a : List D) (R : U → Prop) (h : p_has_no_twice a R) : a.length = 1 := by
  obtain ⟨x, rfl, _⟩ := h
  rfl
def ds_has_no_twice : DS :=
    (sSeq (sSet (dLc (icT (dVar 0)) (gN 2) (dB (d2 (p2 sNe) (d2 vIx (dVar 2) (dC (.int 0))) (dC (.str k_sign)))) (dVar 2) [2]) 1)
    (sRet (d2 (p2 sEq) (dLenD 2 goodN (icL (dVar 1))) (dCB (vOne fLen) (dCons (dVar 1) dNil)))))
theorem good_tok (t : Tok) : goodN t.toD ∧ noB t.toD = true := by
  cases t <;> exact ⟨⟨rfl, by simp [Tok.toD, nk, nks, NestedKey.depth, NestedKey.depthAll]⟩, by simp [Tok.toD, noB, noBs]⟩
theorem sem_has_no_twice (a : List D) (R : U → Prop) (h : p_has_no_twice a R) : ds_has_no_twice { nx := fun _ => R (.d .non), rt := resR R } (slots N_has_no_twice (a.map U.d)) := by
  obtain ⟨l, rfl, hl, hr, h⟩ := h
  obtain ⟨g, hg⟩ := ext1 Tok.inj (fun t => !t.isSign) false
  have e : ((toks l).filter g).map id = toks (l.filter fun t => !t.isSign) := by
    rw [List.map_id]
    unfold toks
    rw [List.filter_map]
    exact congrArg _ (List.filter_congr fun t _ => hg t)
  have fl := List.length_filter_le (fun t : Tok => !t.isSign) l
  simp only [ds_has_no_twice, sSeq, sSet]
  refine dLc_filter (xs := toks l) (ok := fun _ => True) g id (fun R' h => h) trivial (free1 rfl) (by simp; exact thou hl) (fun x hx P hP => ?_) ?_
  · obtain ⟨t, ht, rfl⟩ := List.mem_map.mp hx
    have hf := hr t ht
    rw [hg] at hP
    cases t with
    | fld f =>
      have : f ≠ k_sign := fun z => by subst z; exact absurd (show k_sign ∈ FLD from hf) (by decide)
      simp [Tok.toD, this]
      exact hP _ rfl fun _ P' h6 => h6 _ rfl
    | sign c =>
      simp [Tok.toD]
      exact hP _ rfl fun z => nomatch z
    | _ =>
      simp [Tok.toD]
      exact hP _ rfl fun _ P' h6 => h6 _ rfl
  · rw [e]
    generalize hq : (l.filter fun t => !t.isSign) = q at *
    simp only [sRet]
    simp [dLenD]
    refine ⟨by omega, fun x hx => ?_, noBs_all fun x hx => ?_, fun n hn => ?_⟩
    · obtain ⟨t, _, rfl⟩ := List.mem_map.mp hx
      exact (good_tok t).1
    · obtain ⟨t, _, rfl⟩ := List.mem_map.mp hx
      exact (good_tok t).2
    · have e : decide ((n : Int) = q.length) = noTw l := by
        unfold noTw
        rw [hq]
        cases w : ndB (toks q) with
        | true =>
          have := hn.mpr ((ndB_iff _).mp w)
          exact decide_eq_true (by omega)
        | false =>
          refine decide_eq_false fun z => ?_
          have := (ndB_iff _).mpr (hn.mp (by omega))
          rw [w] at this
          cases this
      rw [e]
      exact h
/-! ### styles told -/
theorem isPP_toD {p : PP} (h : p.Ok) : isPP p.toD = true := by
  cases p with
  | mk c =>
    have h : txtL 1 3 c = true := h
    simp [PP.toD, isPP, isTxt, h]
  | fld f =>
    have h : f ∈ FLD := h
    show decide (f ∈ FLD) = true
    exact decide_eq_true h
theorem isPPs_toD {ps : List PP} (h3 : ps.length ≤ 3) (h : ∀ p ∈ ps, p.Ok) : isPPs (.tup (ps.map PP.toD)) = true := by
  simp only [isPPs, Bool.and_eq_true, decide_eq_true_eq, List.length_map, List.all_map, List.all_eq_true]
  exact ⟨h3, fun p hp => isPP_toD (h p hp)⟩
theorem isPc_toD {p : Pc} (h : p.Ok) : isPc p.toD = true := by
  cases p with
  | p x =>
    have := isPP_toD (show x.Ok from h)
    simp [isPc, Pc.toD, this]
  | cond a t e =>
    obtain ⟨h1, h2, h3⟩ := h
    have e1 : isIf (Pc.cond a t e).toD = true := by
      simp only [Pc.toD, isIf, isPPs_toD h2.1 h2.2, isPPs_toD h3.1 h3.2, decide_eq_true h1, Bool.and_self, decide_true]
    simp [isPc, e1]
theorem isPcs_toD {ps : List Pc} (h : ∀ p ∈ ps, p.Ok) : (ps.map Pc.toD).all isPc = true := by
  simp only [List.all_map, List.all_eq_true]
  exact fun p hp => isPc_toD (h p hp)
theorem isShown_toD {s : Shown} (h : s.Ok) : isShown s.toD = true := by
  have h1 : (1 : Int) ≤ s.most := by have := h.m1; omega
  have h3 : (s.most : Int) ≤ 3 := by have := h.m3; omega
  simp only [Shown.toD, isShown, isTxt, btw, h.ga, h.jo, h.la, h.re, decide_eq_true h.gi, decide_eq_true h1, decide_eq_true h3, Bool.and_self]
noncomputable def isSty (x : D) : Bool := @decide (∃ s : Sty, x = s.toD ∧ s.Ok) (Classical.propDecidable _)
theorem isSty_iff (x : D) : isSty x = true ↔ ∃ s : Sty, x = s.toD ∧ s.Ok := by
  unfold isSty
  exact @decide_eq_true_iff _ (Classical.propDecidable _)
theorem isSty_no {x : D} (h : ¬ ∃ s : Sty, x = s.toD ∧ s.Ok) : isSty x = false := by
  cases e : isSty x with
  | false => rfl
  | true => exact absurd ((isSty_iff x).mp e) h
theorem Row_of {s : Sty} (h : s.Pre) (sh : Shp) : Row (rowTk s sh) := by
  intro t ht
  unfold rowTk at ht
  rw [List.mem_flatten] at ht
  obtain ⟨l, hl, ht⟩ := ht
  obtain ⟨p, hp, rfl⟩ := List.mem_map.mp hl
  have okp := flatP_ok h.pc p hp
  cases p with
  | mk c =>
    obtain ⟨x, _, rfl⟩ := List.mem_map.mp (show t ∈ sgns c from ht)
    trivial
  | fld f =>
    have okf : f ∈ FLD := okp
    unfold plTk at ht
    dsimp only at ht
    split at ht
    · unfold namesTk at ht
      rw [List.mem_append] at ht
      rcases ht with ht | ht
      · rw [List.mem_flatten] at ht
        obtain ⟨l, hl, ht⟩ := ht
        obtain ⟨i, _, rfl⟩ := List.mem_map.mp hl
        unfold nmTk at ht
        rw [List.mem_append] at ht
        rcases ht with ht | ht
        · split at ht
          · exact okF_sgn ht
          · cases ht
        · rcases name_mem ht with rfl | rfl | rfl | hn
          · trivial
          · trivial
          · trivial
          · exact okF_sgn hn
      · split at ht
        · exact okF_sgn ht
        · cases ht
    · split at ht
      · cases ht
      · simp at ht
        subst ht
        exact okf
def p_is_style : PSp := fun a R => ∃ x, a = [x] ∧ Sm x ∧ R (.d (.bl (isSty x)))
def p_need_style : PSp := fun a R => ∃ x, a = [x] ∧ Sm x ∧ isSty x = true ∧ R (.d x)
@[simp] theorem e_is_style (x : D) (R : U → Prop) : p_is_style [x] R ↔ Sm x ∧ R (.d (.bl (isSty x))) := by simp [p_is_style]
@[simp] theorem e_need_style (x : D) (R : U → Prop) : p_need_style [x] R ↔ Sm x ∧ isSty x = true ∧ R (.d x) := by simp [p_need_style]
theorem len_is_style (a : List D) (R : U → Prop) (h : p_is_style a R) : a.length = 1 := by
  unfold p_is_style at h
  obtain ⟨x0, rfl, _⟩ := h
  rfl
theorem len_need_style (a : List D) (R : U → Prop) (h : p_need_style a R) : a.length = 1 := by
  unfold p_need_style at h
  obtain ⟨x0, rfl, _⟩ := h
  rfl
def ds_is_style : DS :=
    (sSeq (sIf (dOr (dNot (dB (dIsi isTup (dVar 0)))) (dOr (dB (d2 (p2 sNe) (dCB (vOne fLen) (dCons (dVar 0) dNil)) (dC (.int 2)))) (dNot (dB (dIsi isTup (d2 vIx (dVar 0) (dC (.int 0)))))))) (sRet (dC (.bl false))) sNext)
    (sSeq (sIf (dOr (dNot (dB (dChain (p2 (iCmp fun i j => decide (i ≤ j))) (p2 (iCmp fun i j => decide (i ≤ j))) (dC (.int 1)) (dCB (vOne fLen) (dCons (d2 vIx (dVar 0) (dC (.int 0))) dNil)) (dC (.int 10))))) (dNot (dB (dCB (vOne fAll) (dCons (dLc (icT (d2 vIx (dVar 0) (dC (.int 0)))) (gN 2) ttYes (dCallP p_is_piece (dCons (dVar 2) dNil)) [2]) dNil))))) (sRet (dC (.bl false))) sNext)
    (sRet (dAndV (dCallP p_is_shown (dCons (d2 vIx (dVar 0) (dC (.int 1))) dNil)) (dCB (vOne fAll) (dCons (dLc (icT (dC D_SHAPES)) (gN 1) ttYes (dCallP p_has_no_twice (dCons (dCallP p_row_of (dCons (dVar 0) (dCons (dVar 1) dNil))) dNil)) [1]) dNil))))))

def ds_need_style : DS :=
    (sSeq (sIf (dNot (dB (dCallP p_is_style (dCons (dVar 0) dNil)))) sNever sNext)
    (sRet (dVar 0)))
theorem sem_is_style (a : List D) (R : U → Prop) (h : p_is_style a R) : ds_is_style { nx := fun _ => R (.d .non), rt := resR R } (slots N_is_style (a.map U.d)) := by
  obtain ⟨x, rfl, hs, h⟩ := h
  cases x with
  | tup xs =>
    by_cases hl : xs.length = 2
    · match xs, hl with
      | [y, z], _ =>
        simp at hs
        cases y with
        | tup ps =>
          simp at hs
          obtain ⟨⟨s1, s2⟩, s3⟩ := hs
          refine guardF false (fun P hP => hP) (fun z => nomatch z) fun _ => ?_
          refine guardF (!((decide (1 ≤ ps.length) && decide (ps.length ≤ 10)) && ps.all isPc)) (fun P hP => ?_) (fun hb => ?_) fun hb => ?_
          · refine orT (!(decide (1 ≤ ps.length) && decide (ps.length ≤ 10))) (!ps.all isPc) (fun P hP => ?_) (fun _ P hP => ?_) (by rw [Bool.not_and] at hP; exact hP)
            · refine notT _ (fun P hP => ?_) hP
              simp
              refine ifB_of (fun e => ?_) fun e => ?_
              · have e1 : decide (1 ≤ ps.length) = true := decide_eq_true (by have := of_decide_eq_true e; omega)
                rw [e1] at hP
                have e2 : decide (ps.length ≤ 10) = decide ((ps.length : Int) ≤ 10) := by simp; omega
                rw [e2] at hP
                exact hP
              · have e1 : decide (1 ≤ ps.length) = false := decide_eq_false (by have := of_decide_eq_false e; omega)
                rw [e1] at hP
                exact hP
            · refine notT _ (fun P hP => bT _ (fun P hP => ?_) hP) hP
              refine allLc (xs := ps) (ok := fun _ => True) isPc (fun R' h => h) trivial (free1 rfl) (thou s1) (fun x hx P hP => ?_) hP
              simp
              exact ⟨s2.mem hx, hP _ rfl⟩
          · rw [isSty_no] at h
            · exact h
            · rintro ⟨s, e, ok⟩
              simp only [Sty.toD, D.tup.injEq, List.cons.injEq, and_true] at e
              obtain ⟨rfl, rfl⟩ := e
              have := nbT hb
              have h1 := ok.pre.n1
              have h10 := ok.pre.n10
              rw [isPcs_toD ok.pre.pc, List.length_map, decide_eq_true h1, decide_eq_true h10] at this
              cases this
          have hb := nbF hb
          simp only [Bool.and_eq_true, decide_eq_true_eq] at hb
          obtain ⟨⟨n1, n10⟩, hb⟩ := hb
          obtain ⟨pcs, rfl, okp⟩ := isPcs_of hb
          rw [List.length_map] at n1 n10
          refine retV ?_
          cases hsh : isShown z with
          | false =>
            rw [isSty_no] at h
            · refine andV false false (fun P hP => ?_) (fun z => nomatch z) (by exact h)
              simp [hsh]
              exact ⟨s3, hP⟩
            · rintro ⟨s, e, ok⟩
              simp only [Sty.toD, D.tup.injEq, List.cons.injEq, and_true] at e
              rw [e.2, isShown_toD ok.pre.sh] at hsh
              cases hsh
          | true =>
            obtain ⟨sh, rfl, oks⟩ := isShown_of hsh
            have pre : (Sty.mk pcs sh).Pre := ⟨n1, n10, okp, oks⟩
            obtain ⟨g, hg⟩ := ext1 Shp.inj (fun sp => noTw (rowTk ⟨pcs, sh⟩ sp)) false
            have e : isSty (Sty.mk pcs sh).toD = (SHPS.map Shp.toD).all g := by
              rw [List.all_map, Bool.eq_iff_iff, isSty_iff, List.all_eq_true]
              constructor
              · rintro ⟨s, e, ok⟩ sp hsp
                rw [← Sty.inj e] at ok
                rw [Function.comp, hg, noTw_iff]
                exact ok.rows sp hsp
              · intro h
                refine ⟨_, rfl, pre, fun sp hsp => ?_⟩
                have := h sp hsp
                rw [Function.comp, hg, noTw_iff] at this
                exact this
            rw [show D.tup [D.tup (pcs.map Pc.toD), sh.toD] = (Sty.mk pcs sh).toD from rfl] at h ⊢
            rw [e] at h
            refine andV true _ (fun P hP => ?_) (fun _ P hP => ?_) (by exact h)
            · simp [Sty.toD, hsh]
              exact ⟨s3, hP⟩
            · refine allLc (xs := SHPS.map Shp.toD) (ok := fun _ => True) g (fun R' h => h) trivial (free1 rfl) (mill (by simp [SHPS])) (fun x hx P hP => ?_) hP
              obtain ⟨sp, _, rfl⟩ := List.mem_map.mp hx
              rw [hg] at hP
              have := row_len (sh := sp) pre
              simp
              exact ⟨pre, by omega, Row_of pre sp, hP _ rfl⟩
        | _ => exact (show R (.d (.bl false)) by rw [isSty_no] at h; exact h; rintro ⟨s, e, _⟩; simp [Sty.toD] at e)
    · have e0 : isSty (.tup xs) = false := isSty_no (by rintro ⟨s, e, _⟩; simp only [Sty.toD, D.tup.injEq] at e; rw [e] at hl; exact hl rfl)
      rw [e0] at h
      refine guardF true (fun P hP => ?_) (fun _ => h) (fun z => nomatch z)
      refine orT false true (fun P hP => hP) (fun _ P hP => ?_) hP
      refine orT true true (fun P hP => bT _ (fun P hP => ?_) hP) (fun z => nomatch z) hP
      have e : decide ((xs.length : Int) = 2) = false := decide_eq_false (by omega)
      simp at e ⊢
      first | (rw [e]; exact hP) | simpa [e] using hP
  | _ => exact (show R (.d (.bl false)) by rw [isSty_no] at h; exact h; rintro ⟨s, e, _⟩; simp [Sty.toD] at e)
theorem sem_need_style (a : List D) (R : U → Prop) (h : p_need_style a R) : ds_need_style { nx := fun _ => R (.d .non), rt := resR R } (slots N_need_style (a.map U.d)) := by
  obtain ⟨x, rfl, hs, hb, h⟩ := h
  simp [ds_need_style, hb]
  exact ⟨hs, h⟩
section
variable {P : Program} {w : World} {K : PySem.W.Frag} {mg : Str → Option Value} {base : Heap}
theorem ok_has_no_twice (T : Txt K mg) (F : Df K mg "has_no_twice" s_has_no_twice) : Ok P w K mg base 1 "has_no_twice" ["row"] (spP K p_has_no_twice) := by
  obtain ⟨f, fd, F, g⟩ := F
  refine ⟨f, fd, fnP F sc_has_no_twice (fun a R h => len_has_no_twice a R h) (by decide) (ds := ds_has_no_twice) (fun cdv A outer s H E hr => ?_) sem_has_no_twice, g, F.kp, F.binds fun _ _ _ _ _ _ us hl => match us, hl with | [_], _ => rfl⟩
  exact (dss_cons (ds_setLc (own := [("token", 2)]) (i := 1) (by decide) rfl sc_has_no_twice.nd rfl rfl (sw_true rfl rfl rfl (by decide +kernel)) (ic_tup (dv 0)) (blkOk_by (own := [("token", 2)]) (N := N_has_no_twice) (sc := defScope s_has_no_twice) (by decide +kernel)) (fun _ _ _ _ _ => (dg_name 2 (by decide) sc_has_no_twice.nd)) (fun _ _ _ _ _ => (dts_one (dt_cmp op_ne lift_ne (de_ix ix_seq lift_ix (dv 2) de_int) (de_str e_sign) (nomark _)))) (fun _ _ _ _ _ => (dv 2)))
    (dss_one (ds_ret (de_cmp op_eq lift_eq (de_lenT hr.units (by rfl) T.m_len rfl sc_has_no_twice.nd (ic_lst (dv 1)) (blkOk_by (own := [("token", 2)]) (N := N_has_no_twice) (sc := defScope s_has_no_twice) (by decide +kernel)) (fun _ _ _ _ _ => pg_name (i := 2) sc_has_no_twice.nd rfl (Or.inl rfl)) (fun _ _ _ _ _ => pv 2)) (de_callB call_len lift_len (by rfl) T.m_len (by decide +kernel) (da_cons (dv 1) da_nil)) (nomark _)))))

theorem ok_is_style (T : Txt K mg) (F : Df K mg "is_style" s_is_style) (O_is_piece : Ok P w K mg base 4 "is_piece" ["value"] (spP K p_is_piece)) (O_is_shown : Ok P w K mg base 2 "is_shown" ["value"] (spP K p_is_shown)) (O_has_no_twice : Ok P w K mg base 1 "has_no_twice" ["row"] (spP K p_has_no_twice)) (O_row_of : Ok P w K mg base 5 "row_of" ["style", "shape"] (spP K p_row_of)) : Ok P w K mg base 6 "is_style" ["value"] (spP K p_is_style) := by
  obtain ⟨f, fd, F, g⟩ := F
  refine ⟨f, fd, fnP F sc_is_style (fun a R h => len_is_style a R h) (by decide) (ds := ds_is_style) (fun cdv A outer s H E hr => ?_) sem_is_style, g, F.kp, F.binds fun _ _ _ _ _ _ us hl => match us, hl with | [_], _ => rfl⟩
  exact (dss_cons (ds_if (PW.pt (dw_or (dt_not (dt_val (de_isi kit_isTup (by rfl) T.m_isinstance (by decide +kernel) (by rfl) T.m_tuple (by decide +kernel) (dv 0)))) (dw_or (dt_cmp op_ne lift_ne (de_callB call_len lift_len (by rfl) T.m_len (by decide +kernel) (da_cons (dv 0) da_nil)) de_int (nomark _)) (dw_or1 (dt_not (dt_val (de_isi kit_isTup (by rfl) T.m_isinstance (by decide +kernel) (by rfl) T.m_tuple (by decide +kernel) (de_ix ix_seq lift_ix (dv 0) de_int)))))))) (dss_one (ds_ret de_bl)) dss_nil)
    (dss_cons (ds_if (PW.pt (dw_or (dt_not (dt_chain op_le (lift_iCmp (fun i j => decide (i ≤ j))) op_le (lift_iCmp (fun i j => decide (i ≤ j))) de_int (de_callB call_len lift_len (by rfl) T.m_len (by decide +kernel) (da_cons (de_ix ix_seq lift_ix (dv 0) de_int) da_nil)) (de_gint (by rfl) T.c_MOST_PIECES))) (dw_or1 (dt_not (dt_val (de_callB (cr_all rfl) lift_all (by rfl) T.m_all (by decide +kernel) (da_cons (de_lc (own := [("piece", 2)]) rfl sc_is_style.nd (ic_tup (de_ix ix_seq lift_ix (dv 0) de_int)) (blkOk_by (own := [("piece", 2)]) (N := N_is_style) (sc := defScope s_is_style) (by decide +kernel)) (fun _ _ _ _ _ => (dg_name 2 (by decide) sc_is_style.nd)) (fun _ _ _ _ _ => dts_nil) (fun _ _ _ _ _ => (dcall O_is_piece (by exact hr.mono (by decide)) (by rfl) (da_cons (dv 2) da_nil)))) da_nil))))))) (dss_one (ds_ret de_bl)) dss_nil)
    (dss_one (ds_ret (de_and (dcall O_is_shown (by exact hr.mono (by decide)) (by rfl) (da_cons (de_ix ix_seq lift_ix (dv 0) de_int) da_nil)) (de_one (de_callB (cr_all rfl) lift_all (by rfl) T.m_all (by decide +kernel) (da_cons (de_lc (own := [("shape", 1)]) rfl sc_is_style.nd (ic_tup (de_gtup (by rfl) T.c_SHAPES)) (blkOk_by (own := [("shape", 1)]) (N := N_is_style) (sc := defScope s_is_style) (by decide +kernel)) (fun _ _ _ _ _ => (dg_name 1 (by decide) sc_is_style.nd)) (fun _ _ _ _ _ => dts_nil) (fun _ _ _ _ _ => (dcall O_has_no_twice (by exact hr.mono (by decide)) (by rfl) (da_cons (dcall O_row_of (by exact hr.mono (by decide)) (by rfl) (da_cons (dv 0) (da_cons (dv 1) da_nil))) da_nil)))) da_nil))))))))

theorem ok_need_style (T : Txt K mg) (F : Df K mg "need_style" s_need_style) (O_is_style : Ok P w K mg base 6 "is_style" ["value"] (spP K p_is_style)) : Ok P w K mg base 7 "need_style" ["value"] (spP K p_need_style) := by
  obtain ⟨f, fd, F, g⟩ := F
  refine ⟨f, fd, fnP F sc_need_style (fun a R h => len_need_style a R h) (by decide) (ds := ds_need_style) (fun cdv A outer s H E hr => ?_) sem_need_style, g, F.kp, F.binds fun _ _ _ _ _ _ us hl => match us, hl with | [_], _ => rfl⟩
  exact (dss_cons (ds_if (dt_not (dt_val (dcall O_is_style (by exact hr.mono (by decide)) (by rfl) (da_cons (dv 0) da_nil)))) (dss_one ds_never) dss_nil)
    (dss_one (ds_ret (dv 0))))
end
end Ib
set_option Elab.async false
set_option linter.all false
set_option autoImplicit false
set_option maxRecDepth 100000
set_option maxHeartbeats 4000000
/-! IbM9: tokens set, entries, lists set. -/
namespace Ib
open PySem PySem.Spec PyProof.Rows L2 TL PySem.W
variable [Tabl]
abbrev TFLD : List Cs := [k_year, k_title, k_place, k_volume]
def Tok.For (b : Bk) : Tok → Prop
  | .sign _ => True
  | .fam i => i < b.names.length
  | .giv i => i < b.names.length
  | .dot i => i < b.names.length
  | .fld f => f ∈ TFLD ∧ (f = k_place → b.place.isSome = true) ∧ (f = k_volume → b.volume.isSome = true)
def dots (l : Cs) : Cs := (l.map fun c => [c, 46]).flatten
def setTk (b : Bk) : Tok → Cs
  | .sign c => [c]
  | .fam i => (b.names.getD i ([], [])).1
  | .giv i => (b.names.getD i ([], [])).2
  | .dot i => dots (b.names.getD i ([], [])).2
  | .fld f => if f = k_title then b.title else if f = k_place then b.place.getD [] else numI (if f = k_year then b.year else b.volume.getD 0)
def entL (s : Sty) (b : Bk) : Cs := ((rowTk s b.shp).map (setTk b)).flatten
def ordB (ts : List Cs) (bs : List Bk) : List Bk := bs.mergeSort (dataLe false fun b => (keyD ts b).pd)
theorem ordD_map (ts : List Cs) (bs : List Bk) : ordD ts (bs.map Bk.toD) = (ordB ts bs).map Bk.toD := by
  unfold ordD ordB
  refine (List.map_mergeSort fun a _ b _ => ?_).symm
  simp only [dataLe, sortLe, kdD_toD]
def p_set_token : PSp := fun a R => ∃ (t : Tok) (b : Bk), a = [t.toD, b.toD] ∧ Sm b.toD ∧ b.Ok ∧ t.For b ∧ R (.d (.str (setTk b t)))
@[simp] theorem e_set_token (t : Tok) (b : Bk) (R : U → Prop) : p_set_token [t.toD, b.toD] R ↔ Sm b.toD ∧ b.Ok ∧ t.For b ∧ R (.d (.str (setTk b t))) := by
  unfold p_set_token
  constructor
  · rintro ⟨p', i', e, h⟩
    simp only [List.cons.injEq, and_true] at e
    rw [Tok.inj e.1, Bk.inj e.2]
    exact h
  · exact fun h => ⟨t, b, rfl, h⟩
def p_entry_of : PSp := fun a R => ∃ (s : Sty) (b : Bk), a = [s.toD, b.toD] ∧ s.Ok ∧ Sm b.toD ∧ b.Ok ∧ R (.d (.str (entL s b)))
@[simp] theorem e_entry_of (s : Sty) (b : Bk) (R : U → Prop) : p_entry_of [s.toD, b.toD] R ↔ s.Ok ∧ Sm b.toD ∧ b.Ok ∧ R (.d (.str (entL s b))) := by
  unfold p_entry_of
  constructor
  · rintro ⟨p', i', e, h⟩
    simp only [List.cons.injEq, and_true] at e
    rw [Sty.inj e.1, Bk.inj e.2]
    exact h
  · exact fun h => ⟨s, b, rfl, h⟩
def p_set_entry : PSp := fun a R => ∃ (s : Sty) (b : Bk), a = [s.toD, b.toD] ∧ Sm s.toD ∧ s.Ok ∧ Sm b.toD ∧ b.Ok ∧ R (.d (.str (entL s b)))
@[simp] theorem e_set_entry (s : Sty) (b : Bk) (R : U → Prop) : p_set_entry [s.toD, b.toD] R ↔ Sm s.toD ∧ s.Ok ∧ Sm b.toD ∧ b.Ok ∧ R (.d (.str (entL s b))) := by
  unfold p_set_entry
  constructor
  · rintro ⟨p', i', e, h⟩
    simp only [List.cons.injEq, and_true] at e
    rw [Sty.inj e.1, Bk.inj e.2]
    exact h
  · exact fun h => ⟨s, b, rfl, h⟩
def p_set_list : PSp := fun a R => ∃ (s : Sty) (bs : List Bk) (ts : List Cs), a = [s.toD, .tup (bs.map Bk.toD), .tup (ts.map D.str)] ∧ Sm s.toD ∧ s.Ok ∧ Sm (.tup (bs.map Bk.toD)) ∧ (∀ b ∈ bs, b.Ok) ∧ bs.Nodup ∧ bs.length ≤ 10 ∧ LetsOk ts ∧ R (.d (.str (((ordB ts bs).map fun b => entL s b ++ [10]).flatten)))
@[simp] theorem e_set_list (s : Sty) (bs : List Bk) (ts : List Cs) (R : U → Prop) : p_set_list [s.toD, .tup (bs.map Bk.toD), .tup (ts.map D.str)] R ↔ Sm s.toD ∧ s.Ok ∧ Sm (.tup (bs.map Bk.toD)) ∧ (∀ b ∈ bs, b.Ok) ∧ bs.Nodup ∧ bs.length ≤ 10 ∧ LetsOk ts ∧ R (.d (.str (((ordB ts bs).map fun b => entL s b ++ [10]).flatten))) := by
  unfold p_set_list
  constructor
  · rintro ⟨p', i', t', e, h⟩
    simp only [List.cons.injEq, D.tup.injEq, and_true] at e
    rw [Sty.inj e.1, map_inj Bk.inj e.2.1, strs_inj e.2.2]
    exact h
  · exact fun h => ⟨s, bs, ts, rfl, h⟩
theorem len_set_list (a : List D) (R : U → Prop) (h : p_set_list a R) : a.length = 3 := by
  obtain ⟨x0, x1, x2, rfl, _⟩ := h
  rfl
theorem len_set_token (a : List D) (R : U → Prop) (h : p_set_token a R) : a.length = 2 := by
  obtain ⟨x0, x1, rfl, _⟩ := h
  rfl
theorem len_entry_of (a : List D) (R : U → Prop) (h : p_entry_of a R) : a.length = 2 := by
  obtain ⟨x0, x1, rfl, _⟩ := h
  rfl
theorem len_set_entry (a : List D) (R : U → Prop) (h : p_set_entry a R) : a.length = 2 := by
  obtain ⟨x0, x1, rfl, _⟩ := h
  rfl
def ds_set_token : DS :=
    (sSeq (sAsg (dVar 1) (gT 5 (gsCons (gN 2) (gsCons (gN 3) (gsCons (gN 4) (gsCons (gN 5) (gsCons (gN 6) gsNil)))))))
    (sSeq (sIf (dB (d2 (p2 sEq) (d2 vIx (dVar 0) (dC (.int 0))) (dC (.str k_sign)))) (sRet (d2 vIx (dVar 0) (dC (.int 1)))) sNext)
    (sSeq (sIf (dB (d2 (p2 sEq) (d2 vIx (dVar 0) (dC (.int 0))) (dC (.str k_family)))) (sRet (d2 vIx (d2 vIx (dVar 2) (d2 vIx (dVar 0) (dC (.int 1)))) (dC (.int 0)))) sNext)
    (sSeq (sIf (dB (d2 (p2 sEq) (d2 vIx (dVar 0) (dC (.int 0))) (dC (.str k_given)))) (sRet (d2 vIx (d2 vIx (dVar 2) (d2 vIx (dVar 0) (dC (.int 1)))) (dC (.int 1)))) sNext)
    (sSeq (sIf (dB (d2 (p2 sEq) (d2 vIx (dVar 0) (dC (.int 0))) (dC (.str k_dotted)))) (sRet (dMS mJoin (dC (.str k_empty)) (dCons (dLc (icS (d2 vIx (d2 vIx (dVar 2) (d2 vIx (dVar 0) (dC (.int 1)))) (dC (.int 1)))) (gN 7) ttYes (d2 (p2 sCat) (dVar 7) (dC (.str k_x46))) [7]) dNil))) sNext)
    (sSeq (sIf (dB (d2 (p2 sEq) (d2 vIx (dVar 0) (dC (.int 0))) (dC (.str k_title)))) (sRet (dVar 4)) sNext)
    (sSeq (sIf (dB (d2 (p2 sEq) (d2 vIx (dVar 0) (dC (.int 0))) (dC (.str k_place)))) (sRet (dVar 5)) sNext)
    (sRet (dCB (vOne fStrI) (dCons (dIf (dB (d2 (p2 sEq) (d2 vIx (dVar 0) (dC (.int 0))) (dC (.str k_year)))) (dVar 3) (dVar 6)) dNil))))))))))

def ds_entry_of : DS :=
    (sRet (dMS mJoin (dC (.str k_empty)) (dCons (dLc (icT (dCallP p_row_of (dCons (dVar 0) (dCons (dCallP p_shape_of (dCons (dVar 1) dNil)) dNil)))) (gN 2) ttYes (dCallP p_set_token (dCons (dVar 2) (dCons (dVar 1) dNil))) [2]) dNil)))

def ds_set_entry : DS :=
    (sSeq (sExpr (dCallP p_need_style (dCons (dVar 0) dNil)))
    (sRet (dCallP p_entry_of (dCons (dVar 0) (dCons (dCallP p_need_book (dCons (dVar 1) dNil)) dNil)))))

def ds_set_list : DS :=
    (sSeq (sExpr (dCallP p_need_style (dCons (dVar 0) dNil)))
    (sSeq (sExpr (dCallP p_need_list (dCons (dVar 1) dNil)))
    (sSeq (sExpr (dCallP p_need_letters (dCons (dVar 2) dNil)))
    (sRet (dMS mJoin (dC (.str k_empty)) (dCons (dLc (icT (dCallP p_ordered (dCons (dVar 1) (dCons (dVar 2) dNil)))) (gN 3) ttYes (d2 (p2 sCat) (dCallP p_entry_of (dCons (dVar 0) (dCons (dVar 3) dNil))) (dC (.str k_x10))) [3]) dNil))))))
theorem mill2 {n : Nat} (h : n ≤ 16000000) : n ≤ sizeLine := by rw [sizeLine_eq]; omega
theorem log_small {i : Int} (h0 : 0 ≤ i) (h1 : i ≤ 2999) : i.natAbs.log2 < 1920 := by
  have : i.natAbs < 2 ^ 1920 := Nat.lt_of_le_of_lt (m := 2999) (by omega) (Nat.lt_of_lt_of_le (m := 2 ^ 12) (by decide) (Nat.pow_le_pow_right (by decide) (by decide)))
  by_cases z : i.natAbs = 0
  · rw [z]; decide
  · exact (Nat.log2_lt z).mpr this
theorem sum_const {α : Type} (k : Nat) : ∀ l : List α, (l.map fun _ => k).sum = k * l.length
  | [] => by simp
  | x :: r => by rw [List.map_cons, List.sum_cons, sum_const k r, List.length_cons, Nat.mul_add]; omega
theorem atN {α β : Type} {f : α → β} {l : List α} {i : Nat} (d : α) (h : i < l.length) : atI (l.map f) (i : Int) = some (f (l.getD i d)) ∧ l.getD i d ∈ l := by
  have e : l[i]? = some l[i] := List.getElem?_eq_getElem h
  have e2 : l.getD i d = l[i] := by rw [List.getD_eq_getElem?_getD, e]; rfl
  rw [e2]
  exact ⟨atI_nat (by rw [List.getElem?_map, e]; rfl), List.getElem_mem h⟩
theorem sem_set_token (a : List D) (R : U → Prop) (h : p_set_token a R) : ds_set_token { nx := fun _ => R (.d .non), rt := resR R } (slots N_set_token (a.map U.d)) := by
  obtain ⟨t, b, rfl, hs, hb, ht, h⟩ := h
  obtain ⟨s1, s2, s3, s4⟩ := Sm_bk hs
  obtain ⟨ns, y, ti, p, v⟩ := b
  simp only at s1 s2 s3 s4
  simp only [ds_set_token, sSeq, sAsg, dVar]
  refine ⟨rfl, ?_⟩
  dsimp only [gsCons, gN, gsNil]
  refine ⟨rfl, ?_⟩
  cases t with
  | sign c =>
    simp [Tok.toD]
    exact h
  | fam i =>
    obtain ⟨e, m⟩ := atN (f := nmD) ([], []) (show i < ns.length from ht)
    simp [Tok.toD]
    simp [e, nmD]
    exact h
  | giv i =>
    obtain ⟨e, m⟩ := atN (f := nmD) ([], []) (show i < ns.length from ht)
    simp [Tok.toD]
    simp [e, nmD]
    exact h
  | dot i =>
    obtain ⟨e, m⟩ := atN (f := nmD) ([], []) (show i < ns.length from ht)
    have sl := (s2 _ m).2
    simp only [setTk, dots] at h
    generalize ns.getD i ([], []) = nm at *
    simp [Tok.toD]
    obtain ⟨g, hg⟩ := ext1 (enc := fun c : Nat => D.str [c]) (fun {a b} z => by simpa using z) (fun c => D.str [c, 46]) .non
    refine dLc_map (xs := signs1 nm.2) (ok := fun _ => True) g (fun R' h => ?_) trivial (free1 rfl) (by simp; exact thou sl) (fun x hx P hP => ?_) ?_
    · simp [e, nmD]
      exact h
    · obtain ⟨c, _, rfl⟩ := mem_signs1 hx
      rw [hg] at hP
      simp
      exact hP _ rfl
    · have e2 : (signs1 nm.2).map g = (nm.2.map fun c => [c, 46]).map D.str := by
        unfold signs1
        rw [List.map_map, List.map_map]
        exact List.map_congr_left fun c _ => hg c
      rw [e2]
      simp only [Option.bind_some, strsOf_map]
      refine ⟨?_, h⟩
      rw [List.map_map, show ((fun x : Cs => x.length) ∘ fun c => [c, 46]) = fun _ : Nat => 2 from rfl, sum_const]
      omega
  | fld f =>
    obtain ⟨h1, h2, h3⟩ := ht
    simp only [setTk] at h
    have n1 : f ≠ k_sign := fun z => by subst z; exact absurd h1 (by decide)
    have n2 : f ≠ k_family := fun z => by subst z; exact absurd h1 (by decide)
    have n3 : f ≠ k_given := fun z => by subst z; exact absurd h1 (by decide)
    have n4 : f ≠ k_dotted := fun z => by subst z; exact absurd h1 (by decide)
    have y1 := hb.yr
    have y2 := hb.vo
    simp only at y1 y2 h2 h3
    have yl := log_small (i := y) (by omega) (by omega)
    simp [Tok.toD, n1, n2, n3, n4]
    refine ifB_of (fun e => ?_) fun e => ?_
    · rw [if_pos (of_decide_eq_true e)] at h
      exact h
    rw [if_neg (of_decide_eq_false e)] at h
    refine ifB_of (fun e => ?_) fun e => ?_
    · have e := of_decide_eq_true e
      rw [if_pos e] at h
      cases p with
      | none => cases h2 e
      | some p => exact h
    rw [if_neg (of_decide_eq_false e)] at h
    refine ifB_of (fun e => ?_) fun e => ?_
    · rw [if_pos (of_decide_eq_true e)] at h
      exact ⟨yl, h⟩
    · rename_i e1 e2
      have e := of_decide_eq_false e
      have e1 := of_decide_eq_false e1
      have e2 := of_decide_eq_false e2
      have e3 : f = k_volume := by
        simp only [List.mem_cons, List.not_mem_nil, or_false] at h1
        rcases h1 with z | z | z | z
        · exact absurd z e
        · first | exact absurd z e1 | exact absurd z e2
        · first | exact absurd z e1 | exact absurd z e2
        · exact z
      rw [if_neg e] at h
      cases v with
      | none => cases h3 e3
      | some v =>
        have := y2 v rfl
        exact ⟨log_small (by omega) (by omega), h⟩
theorem row_for {s : Sty} {b : Bk} (h : s.Pre) : ∀ t ∈ rowTk s b.shp, t.For b := by
  intro t ht
  unfold rowTk at ht
  rw [List.mem_flatten] at ht
  obtain ⟨l, hl, ht⟩ := ht
  obtain ⟨p, hp, rfl⟩ := List.mem_map.mp hl
  have okp := flatP_ok h.pc p hp
  have sg : ∀ l : Cs, t ∈ sgns l → t.For b := fun l h => by
    obtain ⟨x, _, rfl⟩ := List.mem_map.mp h
    trivial
  cases p with
  | mk c => exact sg c ht
  | fld f =>
    have okf : f ∈ FLD := okp
    unfold plTk at ht
    dsimp only at ht
    split at ht
    · unfold namesTk at ht
      rw [List.mem_append] at ht
      rcases ht with ht | ht
      · rw [List.mem_flatten] at ht
        obtain ⟨l, hl, ht⟩ := ht
        obtain ⟨i, hi, rfl⟩ := List.mem_map.mp hl
        have hi : i < b.names.length := by
          have := List.mem_range.mp hi
          exact Nat.lt_of_lt_of_le this (Nat.min_le_left _ _)
        unfold nmTk at ht
        rw [List.mem_append] at ht
        rcases ht with ht | ht
        · split at ht
          · exact sg _ ht
          · cases ht
        · rcases name_mem ht with rfl | rfl | rfl | hn
          · exact hi
          · exact hi
          · exact hi
          · exact sg _ hn
      · split at ht
        · exact sg _ ht
        · cases ht
    · rename_i hn
      split at ht
      · cases ht
      · rename_i hpv
        simp at ht
        subst ht
        refine ⟨?_, fun e => ?_, fun e => ?_⟩
        · rcases List.mem_cons.mp okf with z | z
          · exact absurd z hn
          · exact z
        · cases z : b.place.isSome with
          | true => rfl
          | false => exact absurd (.inl ⟨e, z⟩) hpv
        · cases z : b.volume.isSome with
          | true => rfl
          | false => exact absurd (.inr ⟨e, z⟩) hpv
theorem dots_len (l : Cs) : (dots l).length = 2 * l.length := by
  unfold dots
  rw [List.length_flatten, List.map_map, show (List.length ∘ fun c : Nat => [c, 46]) = fun _ : Nat => 2 from rfl, sum_const]
theorem setTk_len {b : Bk} (hs : Sm b.toD) (hb : b.Ok) {t : Tok} (ht : t.For b) : (setTk b t).length ≤ 2000 := by
  obtain ⟨s1, s2, s3, s4⟩ := Sm_bk hs
  have nm : ∀ i, i < b.names.length → (b.names.getD i ([], [])).1.length ≤ 1000 ∧ (b.names.getD i ([], [])).2.length ≤ 1000 := fun i hi => s2 _ (atN (f := nmD) ([], []) hi).2
  cases t with
  | sign c => simp [setTk]
  | fam i => have := (nm i ht).1; simp only [setTk]; omega
  | giv i => have := (nm i ht).2; simp only [setTk]; omega
  | dot i => have := (nm i ht).2; simp only [setTk, dots_len]; omega
  | fld f =>
    have y1 := hb.yr
    have y2 := hb.vo
    simp only [setTk]
    split
    · omega
    split
    · cases e : b.place with
      | none => simp
      | some p => have := s4 p e; simp; omega
    split
    · have := numI_len (i := b.year) (by omega) (by omega); omega
    · cases e : b.volume with
      | none => have := numI_len (i := 0) (by omega) (by omega); simp; omega
      | some p => have := y2 p e; have := numI_len (i := p) (by omega) (by omega); simp; omega
theorem sum_le {α : Type} {f : α → Nat} {k : Nat} : ∀ {xs : List α}, (∀ x ∈ xs, f x ≤ k) → (xs.map f).sum ≤ k * xs.length
  | [], _ => by simp
  | x :: r, h => by
    have := sum_le (xs := r) fun y hy => h y (by simp [hy])
    have := h x (by simp)
    simp only [List.map_cons, List.sum_cons, List.length_cons, Nat.mul_add, Nat.mul_one]
    omega
theorem entL_len {s : Sty} {b : Bk} (h : s.Pre) (hs : Sm b.toD) (hb : b.Ok) : (entL s b).length ≤ 1440000 := by
  have rl := row_len (sh := b.shp) h
  have := flat_len (xs := rowTk s b.shp) (f := setTk b) (k := 2000) fun t ht => setTk_len hs hb (row_for h t ht)
  unfold entL
  omega
theorem shp_in {b : Bk} (hb : b.Ok) : b.shp ∈ SHPS := by
  have h1 := hb.n1
  have h3 := hb.n3
  unfold Bk.shp
  have : b.names.length = 1 ∨ b.names.length = 2 ∨ b.names.length = 3 := by omega
  cases b.place.isSome <;> cases b.volume.isSome <;> rcases this with e | e | e <;> rw [e] <;> simp [SHPS]
theorem sem_entry_of (a : List D) (R : U → Prop) (h : p_entry_of a R) : ds_entry_of { nx := fun _ => R (.d .non), rt := resR R } (slots N_entry_of (a.map U.d)) := by
  obtain ⟨s, b, rfl, ok, hs, hb, h⟩ := h
  have rl := row_len (sh := b.shp) ok.pre
  obtain ⟨g, hg⟩ := ext1 Tok.inj (setTk b) []
  have e : (toks (rowTk s b.shp)).map g = (rowTk s b.shp).map (setTk b) := by
    unfold toks
    rw [List.map_map]
    exact List.map_congr_left fun t _ => hg t
  refine retV ?_
  refine joinLc (xs := toks (rowTk s b.shp)) (ok := fun _ => True) g (fun R' h => ?_) trivial (free1 rfl) (by simp; exact thou (by omega)) (fun x hx P hP => ?_) ?_ ?_
  · simp
    exact ⟨hs, hb, ok.pre, h⟩
  · obtain ⟨t, ht, rfl⟩ := List.mem_map.mp hx
    rw [hg] at hP
    simp
    exact ⟨hs, hb, row_for ok.pre t ht, hP _ rfl⟩
  · rw [e, List.map_map]
    have := sum_le (xs := rowTk s b.shp) (f := List.length ∘ setTk b) (k := 2000) fun t ht => setTk_len hs hb (row_for ok.pre t ht)
    exact Nat.le_trans this (by omega)
  · rw [e]
    exact h
theorem sem_set_entry (a : List D) (R : U → Prop) (h : p_set_entry a R) : ds_set_entry { nx := fun _ => R (.d .non), rt := resR R } (slots N_set_entry (a.map U.d)) := by
  obtain ⟨s, b, rfl, ss, ok, hs, hb, h⟩ := h
  simp [ds_set_entry]
  exact ⟨ss, (isSty_iff _).mpr ⟨s, rfl, ok⟩, hs, isBook_toD hb, ok, hs, hb, h⟩
theorem isList_toD {bs : List Bk} (h : ∀ b ∈ bs, b.Ok) (nd : bs.Nodup) : isList (.tup (bs.map Bk.toD)) = true := by
  simp only [isList, Bool.and_eq_true, ndB_iff, List.all_map, List.all_eq_true]
  refine ⟨fun b hb => isBook_toD (h b hb), ?_⟩
  unfold List.Nodup at nd ⊢
  rw [List.pairwise_map]
  exact nd.imp fun h e => h (Bk.inj e)
theorem Sm_lets {ts : List Cs} (h : LetsOk ts) : Sm (.tup (ts.map D.str)) := by
  simp
  refine ⟨by have := h.le; omega, Sms_of fun x hx => ?_⟩
  obtain ⟨t, ht, rfl⟩ := List.mem_map.mp hx
  have := h.let_ t ht
  simp [isLetL] at this ⊢
  omega
theorem ordB_perm (ts : List Cs) (bs : List Bk) : (ordB ts bs).Perm bs := List.mergeSort_perm _ _
theorem sem_set_list (a : List D) (R : U → Prop) (h : p_set_list a R) : ds_set_list { nx := fun _ => R (.d .non), rt := resR R } (slots N_set_list (a.map U.d)) := by
  obtain ⟨s, bs, ts, rfl, ss, ok, hs, hb, nd, hl, hlt, h⟩ := h
  have pm := ordB_perm ts bs
  obtain ⟨g, hg⟩ := ext1 Bk.inj (fun b => entL s b ++ [10]) []
  have e : ((ordB ts bs).map Bk.toD).map g = (ordB ts bs).map fun b => entL s b ++ [10] := by
    rw [List.map_map]
    exact List.map_congr_left fun t _ => hg t
  have sb : ∀ b ∈ ordB ts bs, Sm b.toD ∧ b.Ok := fun b m => by
    have m := pm.mem_iff.mp m
    simp at hs
    exact ⟨hs.2.mem (List.mem_map.mpr ⟨b, m, rfl⟩), hb b m⟩
  simp only [ds_set_list, sSeq, sExpr, dCallP, dCons, dVar, dNil]
  refine (e_need_style _ _).mpr ⟨ss, (isSty_iff _).mpr ⟨s, rfl, ok⟩, ?_⟩
  refine (e_need_list _ _).mpr ⟨hs, isList_toD hb nd, ?_⟩
  refine (e_need_letters _ _).mpr ⟨Sm_lets hlt, by rw [isLets_strs]; exact letsOk.mpr hlt, ?_⟩
  refine retV ?_
  refine joinLc (xs := (ordB ts bs).map Bk.toD) (ok := fun _ => True) g (fun R' h => ?_) trivial (free1 rfl) (by rw [List.length_map, pm.length_eq]; exact thou (by omega)) (fun x hx P hP => ?_) ?_ ?_
  · simp only [icT, dCallP, dCons, dVar, dNil]
    refine (e_ordered _ _ _).mpr ⟨hs, isList_toD hb nd, Sm_lets hlt, hlt, ?_⟩
    rw [ordD_map]
    exact h
  · obtain ⟨b, m, rfl⟩ := List.mem_map.mp hx
    obtain ⟨h1, h2⟩ := sb b m
    have := entL_len ok.pre h1 h2
    rw [hg] at hP
    simp
    refine ⟨ok, h1, h2, ?_⟩
    rw [if_pos (mill2 (by omega))]
    exact hP _ rfl
  · rw [e, List.map_map]
    have := sum_le (xs := ordB ts bs) (f := List.length ∘ fun b => entL s b ++ [10]) (k := 1440001) fun b m => by
      obtain ⟨h1, h2⟩ := sb b m
      have := entL_len ok.pre h1 h2
      simp
      exact this
    rw [pm.length_eq] at this
    exact Nat.le_trans this (by omega)
  · rw [e]
    exact h
section
variable {P : Program} {w : World} {K : PySem.W.Frag} {mg : Str → Option Value} {base : Heap}
theorem ok_set_token (T : Txt K mg) (F : Df K mg "set_token" s_set_token) : Ok P w K mg base 1 "set_token" ["token", "book"] (spP K p_set_token) := by
  obtain ⟨f, fd, F, g⟩ := F
  refine ⟨f, fd, fnP F sc_set_token (fun a R h => len_set_token a R h) (by decide) (ds := ds_set_token) (fun cdv A outer s H E hr => ?_) sem_set_token, g, F.kp, F.binds fun _ _ _ _ _ _ us hl => match us, hl with | [_, _], _ => rfl⟩
  exact (dss_cons (ds_asg (dv 1) (dg_tup rfl (dgs_cons (dg_name 2 (by decide) sc_set_token.nd) (dgs_cons (dg_name 3 (by decide) sc_set_token.nd) (dgs_cons (dg_name 4 (by decide) sc_set_token.nd) (dgs_cons (dg_name 5 (by decide) sc_set_token.nd) (dgs_cons (dg_name 6 (by decide) sc_set_token.nd) dgs_nil)))))))
    (dss_cons (ds_if (dt_cmp op_eq lift_eq (de_ix ix_seq lift_ix (dv 0) de_int) (de_str e_sign) (nomark _)) (dss_one (ds_ret (de_ix ix_seq lift_ix (dv 0) de_int))) dss_nil)
    (dss_cons (ds_if (dt_cmp op_eq lift_eq (de_ix ix_seq lift_ix (dv 0) de_int) (de_str e_family) (nomark _)) (dss_one (ds_ret (de_ix ix_seq lift_ix (de_ix ix_seq lift_ix (dv 2) (de_ix ix_seq lift_ix (dv 0) de_int)) de_int))) dss_nil)
    (dss_cons (ds_if (dt_cmp op_eq lift_eq (de_ix ix_seq lift_ix (dv 0) de_int) (de_str e_given) (nomark _)) (dss_one (ds_ret (de_ix ix_seq lift_ix (de_ix ix_seq lift_ix (dv 2) (de_ix ix_seq lift_ix (dv 0) de_int)) de_int))) dss_nil)
    (dss_cons (ds_if (dt_cmp op_eq lift_eq (de_ix ix_seq lift_ix (dv 0) de_int) (de_str e_dotted) (nomark _)) (dss_one (ds_ret (de_ms PySem.F.plainAttrs_str PySem.F.slot_str_join PySem.F.type_str_join mt_join lift_join (de_str e_empty) (da_cons (de_lc (own := [("sign", 7)]) rfl sc_set_token.nd (ic_str (de_ix ix_seq lift_ix (de_ix ix_seq lift_ix (dv 2) (de_ix ix_seq lift_ix (dv 0) de_int)) de_int)) (blkOk_by (own := [("sign", 7)]) (N := N_set_token) (sc := defScope s_set_token) (by decide +kernel)) (fun _ _ _ _ _ => (dg_name 7 (by decide) sc_set_token.nd)) (fun _ _ _ _ _ => dts_nil) (fun _ _ _ _ _ => (de_op op_add_str lift_sCat (dv 7) (de_str e_x46)))) da_nil)))) dss_nil)
    (dss_cons (ds_if (dt_cmp op_eq lift_eq (de_ix ix_seq lift_ix (dv 0) de_int) (de_str e_title) (nomark _)) (dss_one (ds_ret (dv 4))) dss_nil)
    (dss_cons (ds_if (dt_cmp op_eq lift_eq (de_ix ix_seq lift_ix (dv 0) de_int) (de_str e_place) (nomark _)) (dss_one (ds_ret (dv 5))) dss_nil)
    (dss_one (ds_ret (de_callTy call_str_int lift_strI (by rfl) T.m_str (by decide +kernel) (da_cons (de_ifExp (dt_cmp op_eq lift_eq (de_ix ix_seq lift_ix (dv 0) de_int) (de_str e_year) (nomark _)) (dv 3) (dv 6)) da_nil)))))))))))

theorem ok_entry_of (T : Txt K mg) (F : Df K mg "entry_of" s_entry_of) (O_row_of : Ok P w K mg base 5 "row_of" ["style", "shape"] (spP K p_row_of)) (O_shape_of : Ok P w K mg base 6 "shape_of" ["book"] (spP K p_shape_of)) (O_set_token : Ok P w K mg base 1 "set_token" ["token", "book"] (spP K p_set_token)) : Ok P w K mg base 7 "entry_of" ["style", "book"] (spP K p_entry_of) := by
  obtain ⟨f, fd, F, g⟩ := F
  refine ⟨f, fd, fnP F sc_entry_of (fun a R h => len_entry_of a R h) (by decide) (ds := ds_entry_of) (fun cdv A outer s H E hr => ?_) sem_entry_of, g, F.kp, F.binds fun _ _ _ _ _ _ us hl => match us, hl with | [_, _], _ => rfl⟩
  exact (dss_one (ds_ret (de_ms PySem.F.plainAttrs_str PySem.F.slot_str_join PySem.F.type_str_join mt_join lift_join (de_str e_empty) (da_cons (de_lc (own := [("token", 2)]) rfl sc_entry_of.nd (ic_tup (dcall O_row_of (by exact hr.mono (by decide)) (by rfl) (da_cons (dv 0) (da_cons (dcall O_shape_of (by exact hr.mono (by decide)) (by rfl) (da_cons (dv 1) da_nil)) da_nil)))) (blkOk_by (own := [("token", 2)]) (N := N_entry_of) (sc := defScope s_entry_of) (by decide +kernel)) (fun _ _ _ _ _ => (dg_name 2 (by decide) sc_entry_of.nd)) (fun _ _ _ _ _ => dts_nil) (fun _ _ _ _ _ => (dcall O_set_token (by exact hr.mono (by decide)) (by rfl) (da_cons (dv 2) (da_cons (dv 1) da_nil))))) da_nil))))

theorem ok_set_entry (T : Txt K mg) (F : Df K mg "set_entry" s_set_entry) (O_need_style : Ok P w K mg base 7 "need_style" ["value"] (spP K p_need_style)) (O_entry_of : Ok P w K mg base 7 "entry_of" ["style", "book"] (spP K p_entry_of)) (O_need_book : Ok P w K mg base 5 "need_book" ["value"] (spP K p_need_book)) : Ok P w K mg base 8 "set_entry" ["style", "book"] (spP K p_set_entry) := by
  obtain ⟨f, fd, F, g⟩ := F
  refine ⟨f, fd, fnP F sc_set_entry (fun a R h => len_set_entry a R h) (by decide) (ds := ds_set_entry) (fun cdv A outer s H E hr => ?_) sem_set_entry, g, F.kp, F.binds fun _ _ _ _ _ _ us hl => match us, hl with | [_, _], _ => rfl⟩
  exact (dss_cons (ds_expr (dcall O_need_style (by exact hr.mono (by decide)) (by rfl) (da_cons (dv 0) da_nil)))
    (dss_one (ds_ret (dcall O_entry_of (by exact hr.mono (by decide)) (by rfl) (da_cons (dv 0) (da_cons (dcall O_need_book (by exact hr.mono (by decide)) (by rfl) (da_cons (dv 1) da_nil)) da_nil))))))

theorem ok_set_list (T : Txt K mg) (F : Df K mg "set_list" s_set_list) (O_need_style : Ok P w K mg base 7 "need_style" ["value"] (spP K p_need_style)) (O_need_list : Ok P w K mg base 6 "need_list" ["value"] (spP K p_need_list)) (O_need_letters : Ok P w K mg base 4 "need_letters" ["value"] (spP K p_need_letters)) (O_ordered : Ok P w K mg base 7 "ordered" ["books", "letters"] (spP K p_ordered)) (O_entry_of : Ok P w K mg base 7 "entry_of" ["style", "book"] (spP K p_entry_of)) : Ok P w K mg base 8 "set_list" ["style", "books", "letters"] (spP K p_set_list) := by
  obtain ⟨f, fd, F, g⟩ := F
  refine ⟨f, fd, fnP F sc_set_list (fun a R h => len_set_list a R h) (by decide) (ds := ds_set_list) (fun cdv A outer s H E hr => ?_) sem_set_list, g, F.kp, F.binds fun _ _ _ _ _ _ us hl => match us, hl with | [_, _, _], _ => rfl⟩
  exact (dss_cons (ds_expr (dcall O_need_style (by exact hr.mono (by decide)) (by rfl) (da_cons (dv 0) da_nil)))
    (dss_cons (ds_expr (dcall O_need_list (by exact hr.mono (by decide)) (by rfl) (da_cons (dv 1) da_nil)))
    (dss_cons (ds_expr (dcall O_need_letters (by exact hr.mono (by decide)) (by rfl) (da_cons (dv 2) da_nil)))
    (dss_one (ds_ret (de_ms PySem.F.plainAttrs_str PySem.F.slot_str_join PySem.F.type_str_join mt_join lift_join (de_str e_empty) (da_cons (de_lc (own := [("book", 3)]) rfl sc_set_list.nd (ic_tup (dcall O_ordered (by exact hr.mono (by decide)) (by rfl) (da_cons (dv 1) (da_cons (dv 2) da_nil)))) (blkOk_by (own := [("book", 3)]) (N := N_set_list) (sc := defScope s_set_list) (by decide +kernel)) (fun _ _ _ _ _ => (dg_name 3 (by decide) sc_set_list.nd)) (fun _ _ _ _ _ => dts_nil) (fun _ _ _ _ _ => (de_op op_add_str lift_sCat (dcall O_entry_of (by exact hr.mono (by decide)) (by rfl) (da_cons (dv 0) (da_cons (dv 3) da_nil))) (de_str e_x10)))) da_nil)))))))
end
end Ib
set_option Elab.async false
set_option linter.all false
set_option autoImplicit false
set_option maxRecDepth 100000
set_option maxHeartbeats 4000000
/-! IbD: the law's reader: made, drawn from. -/
namespace Ib
open PySem PySem.Spec PyProof.Rows L2 TL
variable [Tabl]
/-! ### mixed -/
def p_l_mixed : PSp := fun a R => ∃ i t m : Int, a = [.int i, .int t, .int m] ∧ 0 ≤ t ∧ t ≤ 1000000 ∧ 1 ≤ m ∧ m < 1073741824 ∧ ∀ r : Int, 0 ≤ r → r < m → R (.d (.int r))
theorem len_l_mixed (a : List D) (R : U → Prop) (h : p_l_mixed a R) : a.length = 3 := by
  obtain ⟨_, _, _, rfl, _⟩ := h
  rfl
def ds_l_mixed : DS :=
    (sSeq (sSet (d2 (p2 iMod) (dCB (vOne fInt1) (dCons (d2 (p2 iMul) (d2 (p2 (iOp fun i j => i + j)) (d2 (p2 iMod) (dCB (vOne fInt1) (dCons (dVar 0) dNil)) (dC (.int 2147483587))) (d2 (p2 iMul) (dVar 1) (dC (.int 7368787)))) (dC (.int 48271))) dNil)) (dC (.int 2147483647))) 3)
    (sSeq (sSet (d2 (p2 iMod) (dCB (vOne fInt1) (dCons (d2 (p2 (iOp fun i j => i + j)) (d2 (p2 (iOp fun i j => i + j)) (d2 (p2 iMul) (dVar 3) (dC (.int 69621))) (d2 (p2 iMul) (d2 (p2 iMul) (dVar 1) (dVar 1)) (dC (.int 3571)))) (dC (.int 11))) dNil)) (dC (.int 2147483629))) 4)
    (sRet (d2 (p2 iMod) (dCB (vOne fInt1) (dCons (d2 (p2 iDiv) (dVar 4) (dC (.int 64))) dNil)) (dVar 2)))))
theorem sem_l_mixed (a : List D) (R : U → Prop) (h : p_l_mixed a R) : ds_l_mixed { nx := fun _ => R (.d .non), rt := resR R } (slots N_l_mixed (a.map U.d)) := by
  obtain ⟨i, t, m, rfl, t0, t1, m1, m2, h⟩ := h
  simp [ds_l_mixed]
  rw [if_pos ⟨by omega, by omega⟩]
  dsimp only
  rw [if_pos (.inr ⟨by decide, by decide⟩)]
  dsimp only
  rw [if_pos (by omega)]
  exact h _ (Int.emod_nonneg _ (by omega)) (Int.emod_lt_of_pos _ (by omega))
section
variable {P : Program} {w : World} {K : PySem.W.Frag} {mg : Str → Option Value} {base : Heap}
theorem ok_l_mixed (T : Txt K mg) (F : Df K mg "_law_mixed" s_l_mixed) : Ok P w K mg base 1 "_law_mixed" ["_law_number", "_law_turn", "_law_many"] (spP K p_l_mixed) := by
  obtain ⟨f, fd, F, g⟩ := F
  refine ⟨f, fd, fnP F sc_l_mixed (fun a R h => len_l_mixed a R h) (by decide) (ds := ds_l_mixed) (fun cdv A outer s H E hr => ?_) sem_l_mixed, g, F.kp, F.binds fun _ _ _ _ _ _ us hl => match us, hl with | [_, _, _], _ => rfl⟩
  exact (dss_cons (ds_set 3 (by decide) sc_l_mixed.nd (de_op op_mod lift_mod (de_callTy call_int1 lift_int1 (by rfl) T.m_int (by decide +kernel) (da_cons (de_op op_mul lift_mul (de_op op_add (lift_iOp fun i j => i + j) (de_op op_mod lift_mod (de_callTy call_int1 lift_int1 (by rfl) T.m_int (by decide +kernel) (da_cons (dv 0) da_nil)) de_int) (de_op op_mul lift_mul (dv 1) de_int)) de_int) da_nil)) de_int))
    (dss_cons (ds_set 4 (by decide) sc_l_mixed.nd (de_op op_mod lift_mod (de_callTy call_int1 lift_int1 (by rfl) T.m_int (by decide +kernel) (da_cons (de_op op_add (lift_iOp fun i j => i + j) (de_op op_add (lift_iOp fun i j => i + j) (de_op op_mul lift_mul (dv 3) de_int) (de_op op_mul lift_mul (de_op op_mul lift_mul (dv 1) (dv 1)) de_int)) de_int) da_nil)) de_int))
    (dss_one (ds_ret (de_op op_mod lift_mod (de_callTy call_int1 lift_int1 (by rfl) T.m_int (by decide +kernel) (da_cons (de_op op_fdiv lift_div (dv 4) de_int) da_nil)) (dv 2))))))
end
/-! ### expressions that change nothing -/
abbrev Fv := St → Hp → Option V
def PV (X : Cx) (e : Expr) (f : Fv) : Prop := PE X e (fun σ H Q => ∃ v, f σ H = some v ∧ Q v H)
def fVar (i : Nat) : Fv := fun σ _ => (σ[i]?).bind id
def fInt (i : Int) : Fv := fun _ _ => some (.int i)
def fIx (f g : Fv) : Fv := fun σ H => match f σ H, g σ H with
  | some (.ref a), some (.int i) => (match H a with
    | some (.lst vs) => atI vs i
    | _ => none)
  | _, _ => none
def fLn (f : Fv) : Fv := fun σ H => match f σ H with
  | some (.ref a) => (match H a with
    | some (.lst vs) => some (.int (vs.length : Nat))
    | _ => none)
  | _ => none
def f2 (c : Int → Int → Bool) (o : Int → Int → V) (f g : Fv) : Fv := fun σ H => match f σ H, g σ H with
  | some (.int i), some (.int j) => if c i j then some (o i j) else none
  | _, _ => none
def f1 (o : Int → Int) (f : Fv) : Fv := fun σ H => match f σ H with
  | some (.int i) => some (.int (o i))
  | _ => none
def fToI (f : Fv) : Fv := fun σ H => match f σ H with
  | some (.int i) => some (.int i)
  | some (.bl k) => some (.int (if k then 1 else 0))
  | _ => none
section
variable {X : Cx} {e a b : Expr} {f g : Fv} {pos p : Pos} {x : Str}
theorem pv_var (i : Nat) {x : Str} {pos : Pos} (hN : X.N[i]? = some x := by rfl) (hv : Vis X.env.scope x := by first | exact Or.inl rfl | exact Or.inr (Or.inl rfl) | exact Or.inr (Or.inr rfl)) (hd : (x == ("__debug__" : Str)) = false := by decide)
    (hcd : (x == ("__classdict__" : Str)) = false := by decide) : PV X (.Name x pos) (fVar i) := PE.imp (pe_var hN hv hd hcd) fun σ H Q ⟨v, h, q⟩ => by
  unfold fVar at h
  obtain ⟨u, h1, h2⟩ := Option.bind_eq_some_iff.mp h
  exact ⟨v, by rw [h1]; exact congrArg some h2, q⟩
theorem pv_int {i : Int} {j : Nat} : PV X (.Constant (.int i) j pos) (fInt i) := PE.imp pe_int fun σ H Q ⟨v, h, q⟩ => by
  cases h
  exact q
theorem pv_ix (ha : PV X a f) (hb : PV X b g) (hs : PlainIx b := by exact fun _ _ => rfl) : PV X (.Subscript a b pos) (fIx f g) := PE.imp (pe_ix ix_list ha hb hs) fun σ H Q ⟨v, h, q⟩ => by
  unfold fIx at h
  split at h
  · rename_i l i e1 e2
    split at h
    · rename_i vs e3
      exact ⟨_, e1, _, e2, l, vs, i, v, rfl, rfl, .of e3, h, q⟩
    · cases h
  · cases h
theorem pv_len (hg : Gl X "len") (hm : X.mg "len" = none) (ha : PV X a f) (he : starEach [a] X.env = (false, eval a X.env) :: starEach [] X.env := by rfl) (hpl : (backTo pos (starEach [] X.env)).any (·.1) = false := by rfl) : PV X (.Call (.Name "len" p) [a] [] pos) (fLn f) :=
  PE.imp (pe_callB call_len hg hm (by decide +kernel) (pa_cons ha pa_nil he) (by decide) (by decide) he hpl) fun σ H Q ⟨v, h, q⟩ => by
    unfold fLn at h
    split at h
    · rename_i l e1
      split at h
      · rename_i vs e3
        cases h
        exact ⟨_, e1, _, _, rfl, .inl ⟨vs, .of e3, rfl⟩, q⟩
      · cases h
    · cases h
theorem pv_op {op : Operator} {C : Int → Int → Prop} {o : Int → Int → V} {c : Int → Int → Bool} (ho : OpR X (binaryOp op) (rI C o)) (hc : ∀ i j, c i j = true → C i j) (ha : PV X a f) (hb : PV X b g) : PV X (.BinOp a op b pos) (f2 c o f g) := PE.imp (pe_op ho ha hb) fun σ H Q ⟨v, h, q⟩ => by
  unfold f2 at h
  split at h
  · rename_i i j e1 e2
    split at h
    · rename_i hcc
      cases h
      exact ⟨_, e1, _, e2, i, j, rfl, rfl, hc i j hcc, q⟩
    · cases h
  · cases h
theorem pv_op0 {op : Operator} {o : Int → Int → V} (ho : OpR X (binaryOp op) (rI0 o)) (ha : PV X a f) (hb : PV X b g) : PV X (.BinOp a op b pos) (f2 (fun _ _ => true) o f g) := PE.imp (pe_op ho ha hb) fun σ H Q ⟨v, h, q⟩ => by
  unfold f2 at h
  split at h
  · rename_i i j e1 e2
    cases h
    exact ⟨_, e1, _, e2, i, j, rfl, rfl, q⟩
  · cases h
theorem pv_cmp0 {op : CmpOp} {o : Int → Int → V} (ho : OpR X (compareOp op) (rI0 o)) (hm : behindInMarks op b = false) (ha : PV X a f) (hb : PV X b g) : PV X (.Compare a [op] [b] pos) (f2 (fun _ _ => true) o f g) := PE.imp (pe_cmpR ho ha hb hm) fun σ H Q ⟨v, h, q⟩ => by
  unfold f2 at h
  split at h
  · rename_i i j e1 e2
    cases h
    exact ⟨_, e1, _, e2, i, j, rfl, rfl, q⟩
  · cases h
theorem pv_eq (hm : behindInMarks .Eq b = false) (ha : PV X a f) (hb : PV X b g) : PV X (.Compare a [.Eq] [b] pos) (f2 (fun _ _ => true) (fun i j => .bl (decide (i = j))) f g) := PE.imp (pe_cmpR op_eq ha hb hm) fun σ H Q ⟨v, h, q⟩ => by
  unfold f2 at h
  split at h
  · rename_i i j e1 e2
    cases h
    refine ⟨_, e1, _, e2, rfl, ?_⟩
    rw [decI]
    exact q
  · cases h
theorem pv_abs (hg : Gl X "abs") (hm : X.mg "abs" = none) (ha : PV X a f) (he : starEach [a] X.env = (false, eval a X.env) :: starEach [] X.env := by rfl) (hpl : (backTo pos (starEach [] X.env)).any (·.1) = false := by rfl) : PV X (.Call (.Name "abs" p) [a] [] pos) (f1 (fun i => if i < 0 then -i else i) f) :=
  PE.imp (pe_callB call_abs hg hm (by decide +kernel) (pa_cons ha pa_nil he) (by decide) (by decide) he hpl) fun σ H Q ⟨v, h, q⟩ => by
    unfold f1 at h
    split at h
    · rename_i i e1
      cases h
      exact ⟨_, e1, i, rfl, q⟩
    · cases h
theorem pv_toI (hg : Gl X "int") (hm : X.mg "int" = none) (ha : PV X a f) (he : starEach [a] X.env = (false, eval a X.env) :: starEach [] X.env := by rfl) (hpl : (backTo pos (starEach [] X.env)).any (·.1) = false := by rfl) : PV X (.Call (.Name "int" p) [a] [] pos) (fToI f) :=
  PE.imp (pe_callTy call_int1 hg hm (by decide +kernel) (pa_cons ha pa_nil he) (by decide) (by decide) he hpl) fun σ H Q ⟨v, h, q⟩ => by
    unfold fToI at h
    split at h
    · rename_i i e1
      cases h
      exact ⟨_, e1, .inl ⟨i, rfl, q⟩⟩
    · rename_i i e1
      cases h
      exact ⟨_, e1, .inr ⟨i, rfl, q⟩⟩
    · cases h
/-- a test that changes nothing -/
def PB (X : Cx) (e : Expr) (b : St → Hp → Option Bool) : Prop := PT X e (fun σ H Q => ∃ k, b σ H = some k ∧ Q k H)
def bOf (f : Fv) : St → Hp → Option Bool := fun σ H => match f σ H with
  | some (.bl k) => some k
  | _ => none
def bAnd (b c : St → Hp → Option Bool) : St → Hp → Option Bool := fun σ H => match b σ H with
  | some true => c σ H
  | some false => some false
  | none => none
theorem pb_cmp {op : CmpOp} {o : Int → Int → Bool} (ho : OpR X (compareOp op) (rI0 fun i j => .bl (o i j))) (hm : behindInMarks op b = false) (ha : PV X a f) (hb : PV X b g) : PB X (.Compare a [op] [b] pos) (bOf (f2 (fun _ _ => true) (fun i j => .bl (o i j)) f g)) := PT.imp (pt_cmpR ho ha hb hm) fun σ H Q ⟨v, h, q⟩ => by
  unfold bOf f2 at h
  cases e1 : f σ H with
  | none => simp [e1] at h
  | some x =>
    cases e2 : g σ H with
    | none => simp [e1, e2] at h
    | some y =>
      cases x <;> cases y <;> simp [e1, e2] at h
      subst h
      exact ⟨_, e1, _, e2, _, _, rfl, rfl, _, rfl, q⟩
theorem pb_eq (hm : behindInMarks .Eq b = false) (ha : PV X a f) (hb : PV X b g) : PB X (.Compare a [.Eq] [b] pos) (bOf (f2 (fun _ _ => true) (fun i j => .bl (decide (i = j))) f g)) := PT.imp (pt_cmpR op_eq ha hb hm) fun σ H Q ⟨v, h, q⟩ => by
  unfold bOf f2 at h
  cases e1 : f σ H with
  | none => simp [e1] at h
  | some x =>
    cases e2 : g σ H with
    | none => simp [e1, e2] at h
    | some y =>
      cases x <;> cases y <;> simp [e1, e2] at h
      subst h
      refine ⟨_, e1, _, e2, rfl, ?_⟩
      rw [decI]
      exact ⟨_, rfl, q⟩
theorem pb_and {tb : St → Hp → Option Bool} {ta : St → Hp → Option Bool} (ha : PB X a ta) (hb : PB X b tb) : PB X (.BoolOp .And [a, b] pos) (bAnd ta tb) := PT.imp (PW.pt (pw_and ha (pw_and1 hb))) fun σ H Q ⟨v, h, q⟩ => by
  unfold bAnd at h
  split at h
  · rename_i e
    exact ⟨_, e, by dsimp only; rw [if_pos rfl]; exact ⟨v, h, q⟩⟩
  · rename_i e
    cases h
    exact ⟨_, e, by dsimp only; rw [if_neg (by decide)]; exact q⟩
  · cases h
/-! ### statements -/
def sV (i : Nat) (f : Fv) : TS := fun D σ H => match f σ H with
  | some v => D.nx (σ.set i (some v)) H
  | none => False
def sF (j : Int) (f : Fv) : TS := fun D σ H => match f σ H, fVar 0 σ H with
  | some v, some (.ref a) => (match H a with
    | some (.lst vs) => (match ixN vs.length j with
      | some n => D.nx σ (upd H a (.lst (vs.set n v)))
      | none => False)
    | _ => False)
  | _, _ => False
def sI (b : St → Hp → Option Bool) (t u : TS) : TS := fun D σ H => match b σ H with
  | some true => t D σ H
  | some false => u D σ H
  | none => False
def sR (f : Fv) : TS := fun D σ H => match f σ H with
  | some v => D.rt v H
  | none => False
theorem sv_set (i : Nat) {x : Str} {pos' : Pos} (hN : X.N.Nodup) (he : PV X e f) (hi : X.N[i]? = some x := by rfl) (hx : Loc X.env.scope x := by first | exact Or.inl rfl | exact Or.inr rfl) (hs : swapsWith e (some (.Name x pos')) pos.line X.env = pure false := by rfl)
    (hf : X.fn x = true ∨ X.env.scope.names.lookup x = some .local := by first | exact .inl rfl | exact .inr rfl) : PS X (.Assign [.Name x pos'] e pos) (sV i f) := PS.imp (ps_set hN hi hx he hs hf) fun D σ H h => by
  unfold sV at h
  split at h
  · rename_i v e1
    exact ⟨v, e1, h⟩
  · exact h.elim
theorem sv_fld {x : Str} {j : Int} {jj : Nat} {p1 p2 spos : Pos} (h0 : PV X (.Name x p1) (fVar 0)) (he : PV X e f) (hs : swapsWithSole [.Subscript (.Name x p1) (.Constant (.int j) jj p2) pos] e spos.line X.env = pure false := by rfl) (hw : swappedStores [.Subscript (.Name x p1) (.Constant (.int j) jj p2) pos] e X.env = pure none := by rfl)
    (h1 : (assignEach [.Subscript (.Name x p1) (.Constant (.int j) jj p2) pos] X.env).map (·.2) = [assign (.Subscript (.Name x p1) (.Constant (.int j) jj p2) pos) X.env] := by rfl)
    (ha : ∀ v, assign (.Subscript (.Name x p1) (.Constant (.int j) jj p2) pos) X.env v = (do
      let ov ← holding [v] (eval (.Name x p1) X.env)
      let iv ← holding [v, ov] (eval (.Constant (.int j) jj p2) X.env)
      standAt pos
      holding [v, ov, iv] (setItem ov iv v)
      release [v, ov, iv] []) := by intro _; rfl) : PS X (.Assign [.Subscript (.Name x p1) (.Constant (.int j) jj p2) pos] e spos) (sF j f) :=
  PS.imp (ps_asg he (pg_sub h0 pv_int set_list ha) hs hw h1) fun D σ H h => by
    unfold sF at h
    split at h
    · rename_i v a e1 e2
      split at h
      · rename_i vs e3
        split at h
        · rename_i n e4
          exact ⟨v, e1, _, e2, _, rfl, a, vs, j, n, rfl, rfl, e3, e4, h⟩
        · exact h.elim
      · exact h.elim
    · exact h.elim
theorem sv_if {c : Expr} {b1 b2 : List Stmt} {bt : St → Hp → Option Bool} {t u : TS} (hc : PB X c bt) (ha : PSs X b1 t) (hb : PSs X b2 u) : PS X (.If c b1 b2 pos) (sI bt t u) := PS.imp (ps_if hc ha hb) fun D σ H h => by
  unfold sI at h
  split at h
  · rename_i e1
    exact ⟨_, e1, by dsimp only; rw [if_pos rfl]; exact h⟩
  · rename_i e1
    exact ⟨_, e1, by dsimp only; rw [if_neg (by decide)]; exact h⟩
  · exact h.elim
theorem sv_ret (he : PV X e f) : PS X (.Return (some e) pos) (sR f) := PS.imp (ps_ret he) fun D σ H h => by
  unfold sR at h
  split at h
  · rename_i v e1
    exact ⟨v, e1, h⟩
  · exact h.elim
/-- return _law_mixed(a, b, c) -/
def sMix (f g h : Fv) : TS := fun D σ H => Tbs H ∧ match f σ H, g σ H, h σ H with
  | some (.int _), some (.int t), some (.int m) => (0 ≤ t ∧ t ≤ 1000000 ∧ 1 ≤ m ∧ m < 1073741824) ∧ ∀ r H', 0 ≤ r → r < m → Stp (fun _ => False) H H' → D.rt (.int r) H'
  | _, _, _ => False
theorem sv_mix {c : Expr} {h : Fv} (F : Ok X.prog X.w X.K X.mg X.base 1 "_law_mixed" ["_law_number", "_law_turn", "_law_many"] (spP X.K p_l_mixed)) (hr : Room 1 X.A) (hg : Gl X "_law_mixed") (ha : PV X a f) (hb : PV X b g) (hc : PV X c h) {cp : Pos}
    (he : starEach [a, b, c] X.env = (false, eval a X.env) :: starEach [b, c] X.env := by rfl) (he2 : starEach [b, c] X.env = (false, eval b X.env) :: starEach [c] X.env := by rfl) (he3 : starEach [c] X.env = (false, eval c X.env) :: starEach [] X.env := by rfl) (hpl : (backTo cp (starEach [b, c] X.env)).any (·.1) = false := by rfl) :
    PS X (.Return (some (.Call (.Name "_law_mixed" p) [a, b, c] [] cp)) pos) (sMix f g h) := by
  obtain ⟨ff, fd, F, hm, hk, hbn⟩ := F
  refine PS.imp (ps_ret (pe_call F hr hg hm hk hbn .nil pass0 (pa_cons ha (pa_cons hb (pa_cons hc pa_nil he3) he2) he) (by decide) he hpl)) fun D σ H ⟨tb, hh⟩ => ?_
  split at hh
  · rename_i i t m e1 e2 e3
    obtain ⟨⟨t0, t1, m0, m1⟩, hh⟩ := hh
    exact ⟨_, e1, _, e2, _, e3, tb, [.int i, .int t, .int m], fun u => ∃ r : Int, 0 ≤ r ∧ r < m ∧ u = .d (.int r), .cons (Is.int _) (.cons (Is.int _) (.cons (Is.int _) .nil)), ⟨i, t, m, rfl, t0, t1, m0, m1, fun r h0 h1 => ⟨r, h0, h1, rfl⟩⟩, fun w v H' ⟨r, h0, h1, e⟩ hs hv => by
      subst e
      cases (show Is X.K H' v (.int r) from hv)
      exact hh r H' h0 h1 hs⟩
  · exact hh.elim
end
/-! ### drawn -/
def p_l_draw : RSp := fun n a R => ∃ m : Int, a = [.int m] ∧ 0 < n ∧ 1 ≤ m ∧ m < 1073741824 ∧ ∀ r : Int, 0 ≤ r → r < m → R (.d (.int r)) (n - 1)
@[simp] theorem e_l_draw (n : Nat) (m : Int) (R : U → Nat → Prop) : p_l_draw n [.int m] R ↔ 0 < n ∧ 1 ≤ m ∧ m < 1073741824 ∧ ∀ r : Int, 0 ≤ r → r < m → R (.d (.int r)) (n - 1) := by
  unfold p_l_draw
  constructor
  · rintro ⟨m', e, h⟩
    cases e
    exact h
  · exact fun h => ⟨m, rfl, h⟩
abbrev fF (j : Int) : Fv := fIx (fVar 0) (fInt j)
def cMod : Int → Int → Bool := fun _ j => decide (0 < j)
def cDiv : Int → Int → Bool := fun _ j => decide (0 < j) && decide (j < 1073741824)
def cMul : Int → Int → Bool := fun i j => (decide (-18446744073709551616 < i) && decide (i < 18446744073709551616)) || (decide (-18446744073709551616 < j) && decide (j < 18446744073709551616))
def oI (f : Int → Int → Int) : Int → Int → V := fun i j => .int (f i j)
def tRest : TS :=
  tSeq (sI (bOf (f2 (fun _ _ => true) (fun i j => .bl (decide (i = j))) (fF 3) (fInt 0))) (sMix (fF 6) (fF 4) (fVar 1)) tNext)
  (tSeq (sF 3 (f2 (fun _ _ => true) (fun i j => .int (i - j)) (fF 3) (fInt 1)))
  (tSeq (sI (bOf (f2 (fun _ _ => true) (fun i j => .bl (decide (i = j))) (fF 5) (fInt 1))) (sMix (fF 2) (fF 4) (fVar 1)) tNext)
  (tSeq (sV 2 (f2 cMod (fun i j => .int (i % j)) (fToI (fF 2)) (fVar 1)))
  (tSeq (sF 2 (f2 cDiv (fun i j => .int (i / j)) (fF 2) (fVar 1)))
  (tSeq (sF 3 (f2 cMul (fun i j => .int (i * j)) (fF 3) (fToI (f2 (fun _ _ => true) (fun i j => .bl (decide (j < i))) (fF 2) (fInt 0)))))
  (sR (fVar 2)))))))
def tDraw : TS :=
  tSeq (sF 4 (f2 (fun _ _ => true) (fun i j => .int (i + j)) (fF 4) (fInt 1)))
  (tSeq (sI (bAnd (bOf (f2 (fun _ _ => true) (fun i j => .bl (decide (i = j))) (fF 3) (fInt 0))) (bOf (f2 (fun _ _ => true) (fun i j => .bl (decide (i < j))) (fF 1) (fLn (fF 0)))))
    (tSeq (sV 3 (f1 (fun i => if i < 0 then -i else i) (fIx (fF 0) (fF 1))))
    (tSeq (sF 1 (f2 (fun _ _ => true) (fun i j => .int (i + j)) (fF 1) (fInt 1)))
    (tSeq (sF 5 (f2 cMod (fun i j => .int (i % j)) (fToI (fVar 3)) (fInt 2)))
    (tSeq (sF 2 (f2 cDiv (fun i j => .int (i / j)) (fVar 3) (f2 (fun _ _ => true) (fun i j => .int (i - j)) (fInt 2) (fF 5))))
    (sF 3 (f2 (fun _ _ => true) (fun i j => .int (i - j)) (fInt 60) (f2 cMul (fun i j => .int (i * j)) (fInt 40) (fF 5)))))))) tNext)
  tRest)
theorem cMul_ok (i j : Int) (h : cMul i j = true) : CMul i j := by
  unfold cMul at h
  unfold CMul
  simp only [Bool.or_eq_true, Bool.and_eq_true, decide_eq_true_eq] at h
  exact h
theorem cDiv_ok (i j : Int) (h : cDiv i j = true) : CDiv i j := by
  unfold cDiv at h
  unfold CDiv
  simp only [Bool.and_eq_true, decide_eq_true_eq] at h
  exact h
theorem cMod_ok (i j : Int) (h : cMod i j = true) : 0 < j := by
  unfold cMod at h
  simpa using h
section
variable {P : Program} {w : World} {K : PySem.W.Frag} {mg : Str → Option Value} {base : Heap}
theorem der_l_draw {cdv : Value} {f : Addr} {A : Around} {outer : List PySem.Env} {s : Shared} {H : Hp} {E : XK} (T : Txt K mg) (O_l_mixed : Ok P w K mg base 1 "_law_mixed" ["_law_number", "_law_turn", "_law_many"] (spP K p_l_mixed)) (hr : Room 1 (A.deeper (envOfC "_law_draw" (defScope s_l_draw) s.heap.objs.size f cdv))) :
    PSs (cxOf CX0 P w K mg base N_l_draw "_law_draw" (defScope s_l_draw) f cdv A outer s H E).nox (defBody s_l_draw) tDraw :=
  pss_cons (sv_fld (pv_var 0) (pv_op0 op_add (pv_ix (pv_var 0) pv_int) pv_int))
  (pss_cons (sv_if (pb_and (pb_eq (nomark _) (pv_ix (pv_var 0) pv_int) pv_int) (pb_cmp op_lt (nomark _) (pv_ix (pv_var 0) pv_int) (pv_len (by rfl) T.m_len (pv_ix (pv_var 0) pv_int))))
    (pss_cons (sv_set 3 sc_l_draw.nd (pv_abs (by rfl) T.m_abs (pv_ix (pv_ix (pv_var 0) pv_int) (pv_ix (pv_var 0) pv_int))))
    (pss_cons (sv_fld (pv_var 0) (pv_op0 op_add (pv_ix (pv_var 0) pv_int) pv_int))
    (pss_cons (sv_fld (pv_var 0) (pv_op op_mod cMod_ok (pv_toI (by rfl) T.m_int (pv_var 3)) pv_int))
    (pss_cons (sv_fld (pv_var 0) (pv_op op_fdiv cDiv_ok (pv_var 3) (pv_op0 op_sub pv_int (pv_ix (pv_var 0) pv_int))))
    (pss_one (sv_fld (pv_var 0) (pv_op0 op_sub pv_int (pv_op op_mul cMul_ok pv_int (pv_ix (pv_var 0) pv_int))))))))) pss_nil)
  (pss_cons (sv_if (pb_eq (nomark _) (pv_ix (pv_var 0) pv_int) pv_int) (pss_one (sv_mix O_l_mixed hr (by rfl) (pv_ix (pv_var 0) pv_int) (pv_ix (pv_var 0) pv_int) (pv_var 1))) pss_nil)
  (pss_cons (sv_fld (pv_var 0) (pv_op0 op_sub (pv_ix (pv_var 0) pv_int) pv_int))
  (pss_cons (sv_if (pb_eq (nomark _) (pv_ix (pv_var 0) pv_int) pv_int) (pss_one (sv_mix O_l_mixed hr (by rfl) (pv_ix (pv_var 0) pv_int) (pv_ix (pv_var 0) pv_int) (pv_var 1))) pss_nil)
  (pss_cons (sv_set 2 sc_l_draw.nd (pv_op op_mod cMod_ok (pv_toI (by rfl) T.m_int (pv_ix (pv_var 0) pv_int)) (pv_var 1)))
  (pss_cons (sv_fld (pv_var 0) (pv_op op_fdiv cDiv_ok (pv_ix (pv_var 0) pv_int) (pv_var 1)))
  (pss_cons (sv_fld (pv_var 0) (pv_op op_mul cMul_ok (pv_ix (pv_var 0) pv_int) (pv_toI (by rfl) T.m_int (pv_cmp0 op_gt (nomark _) (pv_ix (pv_var 0) pv_int) pv_int))))
  (pss_one (sv_ret (pv_var 2))))))))))
end
theorem upd_upd {H : Hp} {a : Addr} {o1 o2 : HO} : upd (upd H a o1) a o2 = upd H a o2 := by
  funext b
  by_cases h : b = a
  · subst h; rw [upd_same, upd_same]
  · rw [upd_ne h, upd_ne h, upd_ne h]
theorem ix7_1 : ixN (0 + 1 + 1 + 1 + 1 + 1 + 1 + 1) 1 = some 1 := by decide
theorem set7_1 (x0 x1 x2 x3 x4 x5 x6 v : V) : [x0, x1, x2, x3, x4, x5, x6].set 1 v = [x0, v, x2, x3, x4, x5, x6] := rfl
theorem ix7_2 : ixN (0 + 1 + 1 + 1 + 1 + 1 + 1 + 1) 2 = some 2 := by decide
theorem set7_2 (x0 x1 x2 x3 x4 x5 x6 v : V) : [x0, x1, x2, x3, x4, x5, x6].set 2 v = [x0, x1, v, x3, x4, x5, x6] := rfl
theorem ix7_3 : ixN (0 + 1 + 1 + 1 + 1 + 1 + 1 + 1) 3 = some 3 := by decide
theorem set7_3 (x0 x1 x2 x3 x4 x5 x6 v : V) : [x0, x1, x2, x3, x4, x5, x6].set 3 v = [x0, x1, x2, v, x4, x5, x6] := rfl
theorem ix7_4 : ixN (0 + 1 + 1 + 1 + 1 + 1 + 1 + 1) 4 = some 4 := by decide
theorem set7_4 (x0 x1 x2 x3 x4 x5 x6 v : V) : [x0, x1, x2, x3, x4, x5, x6].set 4 v = [x0, x1, x2, x3, v, x5, x6] := rfl
theorem ix7_5 : ixN (0 + 1 + 1 + 1 + 1 + 1 + 1 + 1) 5 = some 5 := by decide
theorem set7_5 (x0 x1 x2 x3 x4 x5 x6 v : V) : [x0, x1, x2, x3, x4, x5, x6].set 5 v = [x0, x1, x2, x3, x4, v, x6] := rfl
theorem atN0 {α β : Type} {f : α → β} {l : List α} {i : Nat} (d : α) (h : i < l.length) : atI (l.map f) (i : Int) = some (f (l.getD i d)) := by
  have e : l[i]? = some l[i] := List.getElem?_eq_getElem h
  have e2 : l.getD i d = l[i] := by rw [List.getD_eq_getElem?_getD, e]; rfl
  rw [e2]
  exact atI_nat (by rw [List.getElem?_map, e]; rfl)
theorem st4_2 (x0 x1 x2 x3 v : Option V) : [x0, x1, x2, x3].set 2 v = [x0, x1, v, x3] := rfl
theorem st4_3 (x0 x1 x2 x3 v : Option V) : [x0, x1, x2, x3].set 3 v = [x0, x1, x2, v] := rfl
theorem sem_draw {D : Ends} {H : Hp} {a ls : Addr} {n : Nat} {m : Int} (tb : Tbs H) (hr : RdrAt H a ls n) (hn : 0 < n) (m0 : 1 ≤ m) (m1 : m < 1073741824) (hd : ∀ r H', 0 ≤ r → r < m → Stp (fun b => b = a ∨ b = ls) H H' → RdrAt H' a ls (n - 1) → D.rt (.int r) H') :
    tDraw D [some (.ref a), some (.int m), none, none] H := by
  obtain ⟨ne, ns, at_, num, left, turn, odd, seed, e1, e2, a0, n0, ⟨l0, l1⟩, ⟨t0, t1⟩, ho, s0, s1⟩ := hr
  have fin : ∀ at_ num left odd : Int, 0 ≤ at_ → 0 ≤ num → 0 ≤ left → left ≤ 60 → (odd = 0 ∨ odd = 1) → ∀ H', Stp (fun _ => False) (upd H a (.lst [.ref ls, .int at_, .int num, .int left, .int (turn + 1), .int odd, .int seed])) H' → Stp (fun b => b = a ∨ b = ls) H H' ∧ RdrAt H' a ls (n - 1) := by
    intro at_ num left odd a0 n0 l0 l1 ho H' st
    refine ⟨((Stp.write e2).weak fun b h => .inl h).trans st fun _ z => z.elim, ne, ns, at_, num, left, turn + 1, odd, seed, ?_, ?_, a0, n0, ⟨l0, l1⟩, ⟨by omega, by omega⟩, ho, s0, s1⟩
    · exact st.keep ls _ (by rw [upd_ne (Ne.symm ne)]; exact e1) (fun z => z)
    · exact st.keep a _ (by rw [upd_same]) (fun z => z)
  have tb2 : ∀ o, (∃ us vs, H a = some (.lst us) ∧ o = .lst vs) → Tbs (upd H a o) := fun o ⟨us, vs, h1, h2⟩ => by
    subst h2
    exact (Stp.write h1).tab tb
  have nls : ls ≠ a := Ne.symm ne
  have rest : ∀ (at_ num left odd : Int) (c : Option V), 0 ≤ at_ → 0 ≤ num → 0 ≤ left → left ≤ 60 → (odd = 0 ∨ odd = 1) → tRest D [some (.ref a), some (.int m), none, c] (upd H a (.lst [.ref ls, .int at_, .int num, .int left, .int (turn + 1), .int odd, .int seed])) := by
    intro at_ num left odd c a0 n0 l0 l1 ho
    simp only [tRest, tSeq]
    simp only [sI, fVar, fInt, fIx, f2, bOf, upd_same, List.getElem?_cons_zero, Option.bind_some, id, atI_3, if_true]
    cases q : decide (left = 0) with
    | true =>
      dsimp only
      simp only [sMix, fVar, fInt, fIx, upd_same, List.getElem?_cons_zero, List.getElem?_cons_succ, Option.bind_some, id, atI_6, atI_4]
      refine ⟨tb2 _ ⟨_, _, e2, rfl⟩, ⟨by omega, by omega, m0, m1⟩, fun r H' r0 r1 st => ?_⟩
      obtain ⟨f1, f2⟩ := fin at_ num left odd a0 n0 l0 l1 ho H' st
      exact hd r H' r0 r1 f1 f2
    | false =>
      have q := of_decide_eq_false q
      simp only [tNext, tSeq, sF, sI, fVar, fInt, fIx, f2, bOf, upd_same, upd_upd, List.getElem?_cons_zero, Option.bind_some, id, atI_3, atI_5, if_true, List.length_cons, List.length_nil, ix7_3, set7_3]
      cases q2 : decide (odd = 1) with
      | true =>
        simp only [sMix, fVar, fInt, fIx, upd_same, List.getElem?_cons_zero, List.getElem?_cons_succ, Option.bind_some, id, atI_2, atI_4]
        refine ⟨tb2 _ ⟨_, _, e2, rfl⟩, ⟨by omega, by omega, m0, m1⟩, fun r H' r0 r1 st => ?_⟩
        obtain ⟨f1, f2⟩ := fin at_ num (left - 1) odd a0 n0 (by omega) (by omega) ho H' st
        exact hd r H' r0 r1 f1 f2
      | false =>
        simp only [tNext, tSeq, sF, sV, sR, fVar, fInt, fIx, f2, fToI, upd_same, upd_upd, List.getElem?_cons_zero, List.getElem?_cons_succ, Option.bind_some, id, atI_2, atI_3, atI_5, if_true, List.length_cons, List.length_nil, ix7_2, set7_2, ix7_3, set7_3]
        have c1 : cMod num m = true := decide_eq_true (by omega)
        have c2 : cDiv num m = true := by simp [cDiv]; omega
        have c3 : ∀ z, cMul (left - 1) z = true := fun z => by simp [cMul]; omega
        simp only [c1, c2, c3, if_true, st4_2, upd_same, upd_upd, List.getElem?_cons_zero, List.getElem?_cons_succ, Option.bind_some, id, atI_2, atI_3, List.length_cons, List.length_nil, ix7_2, set7_2, ix7_3, set7_3]
        have dn : 0 ≤ num / m := Int.ediv_nonneg n0 (by omega)
        cases q3 : decide ((0 : Int) < num / m) with
        | true =>
          simp only [if_true, Int.mul_one]
          obtain ⟨f1, f2⟩ := fin at_ (num / m) (left - 1) odd a0 dn (by omega) (by omega) ho _ (.refl _ _)
          exact hd _ _ (Int.emod_nonneg _ (by omega)) (Int.emod_lt_of_pos _ (by omega)) f1 f2
        | false =>
          simp only [Bool.false_eq_true, if_false, Int.mul_zero]
          obtain ⟨f1, f2⟩ := fin at_ (num / m) 0 odd a0 dn (by omega) (by omega) ho _ (.refl _ _)
          exact hd _ _ (Int.emod_nonneg _ (by omega)) (Int.emod_lt_of_pos _ (by omega)) f1 f2
  simp only [tDraw, tSeq]
  simp only [sF, fVar, fInt, fIx, f2, e2, upd_same, upd_upd, List.getElem?_cons_zero, List.getElem?_cons_succ, Option.bind_some, id, atI_4, if_true, List.length_cons, List.length_nil, ix7_4, set7_4]
  simp only [tSeq, sI, bAnd, bOf, fVar, fInt, fIx, fLn, f2, upd_same, upd_ne nls, e1, List.getElem?_cons_zero, List.getElem?_cons_succ, Option.bind_some, id, atI_zero, atI_1, atI_3, if_true]
  cases q1 : decide (left = 0) with
  | false => exact rest at_ num left odd none a0 n0 l0 l1 ho
  | true =>
    dsimp only
    cases q2 : decide (at_ < ((ns.map V.int).length : Nat)) with
    | false => exact rest at_ num left odd none a0 n0 l0 l1 ho
    | true =>
      dsimp only
      have q2 := of_decide_eq_true q2
      rw [List.length_map] at q2
      obtain ⟨k, rfl⟩ : ∃ k : Nat, at_ = k := ⟨at_.toNat, by omega⟩
      have hk : atI (ns.map V.int) (k : Int) = some (.int (ns.getD k 0)) := atN0 (f := V.int) 0 (by omega)
      simp only [tSeq, sV, sF, f1, fToI, fVar, fInt, fIx, f2, upd_same, upd_ne nls, upd_upd, e1, List.getElem?_cons_zero, List.getElem?_cons_succ, Option.bind_some, id, atI_zero, atI_1, hk, st4_3, if_true, List.length_cons, List.length_nil, ix7_1, set7_1, ix7_5, set7_5, atI_5]
      obtain ⟨y, hy, y0⟩ : ∃ y : Int, (if ns.getD k 0 < 0 then -(ns.getD k 0) else ns.getD k 0) = y ∧ 0 ≤ y := ⟨_, rfl, by split <;> omega⟩
      rw [hy]
      have oo : y % 2 = 0 ∨ y % 2 = 1 := by omega
      have c1 : cMod y 2 = true := rfl
      have c2 : cDiv y (2 - y % 2) = true := by simp [cDiv]; omega
      have c3 : cMul 40 (y % 2) = true := by simp [cMul]
      simp only [c1, if_true, upd_same, upd_upd, List.length_cons, List.length_nil, ix7_5, set7_5, atI_5, c2, c3, ix7_2, set7_2, ix7_3, set7_3]
      exact rest _ _ _ _ _ (by omega) (Int.ediv_nonneg y0 (by omega)) (by omega) (by omega) oo
section
variable {P : Program} {w : World} {K : PySem.W.Frag} {mg : Str → Option Value} {base : Heap}
theorem ok_l_draw (T : Txt K mg) (F : Df K mg "_law_draw" s_l_draw) (O_l_mixed : Ok P w K mg base 1 "_law_mixed" ["_law_number", "_law_turn", "_law_many"] (spP K p_l_mixed)) : Ok P w K mg base 2 "_law_draw" ["_law_reader_here", "_law_many"] (spR K p_l_draw) := by
  obtain ⟨f, fd, F, g⟩ := F
  refine ⟨f, fd, F.ok sc_l_draw (fun vs H Q E hh => ?_) (fun cdv A outer s H vs Q E hr hh => ⟨tDraw, der_l_draw T O_l_mixed hr, ?_⟩), g, F.kp, F.binds fun _ _ _ _ _ _ us hl => match us, hl with | [_, _], _ => rfl⟩
  · obtain ⟨_, p, ls, n, us, a, R, rfl, _, hi, ⟨m, rfl, _⟩, _⟩ := hh
    rw [List.length_cons, hi.length]
    rfl
  · obtain ⟨tb, p, ls, n, us, a, R, rfl, hra, hi, ⟨m, rfl, hn, m0, m1, hR⟩, q⟩ := hh
    obtain ⟨v, rfl, hv⟩ : ∃ v, us = [v] ∧ Is K H v (.int m) := by
      cases hi with | cons h t => cases t; exact ⟨_, rfl, h⟩
    cases hv
    exact sem_draw tb hra hn m0 m1 fun r H' r0 r1 st ra => q _ _ _ _ (hR r r0 r1) st ra (Is.int r)
end
end Ib
set_option Elab.async false
set_option linter.all false
set_option autoImplicit false
set_option maxRecDepth 100000
set_option maxHeartbeats 4000000
/-! IbM11: what the law draws: words, texts, marks. -/
namespace Ib
open PySem PySem.Spec PyProof.Rows L2 TL PySem.W
variable [Tabl]
/-- a comprehension whose element draws: at most c draws each -/
theorem dLc_rd {di : DIC} {g : DG} {te : DE} {vs : List Nat} {δ : DEnv} {xs : List D} {ok : DEnv → Prop} {P : U → DEnv → Prop} (good : D → Prop) (c : Nat) (env : Nat → DEnv) (n0 : Nat)
    (hd : ∀ R' : List D → (DEnv → Prop) → DEnv → Prop, R' xs ok (env n0) → di δ R') (hok : ∀ n, ok (env n)) (hf : ∀ n, Free (env n) vs) (hz : xs.length ≤ sizeLine) (hn : c * xs.length ≤ n0)
    (h : ∀ x ∈ xs, ∀ n, c ≤ n → ∀ P : U → DEnv → Prop, (∀ d n' δ5, good d → n ≤ n' + c → wipeE δ5 vs = env n' → P (.d d) δ5) → g x (env n) fun δ3 => te δ3 P)
    (hR : ∀ ds n', ds.length = xs.length → (∀ d ∈ ds, good d) → n0 ≤ n' + c * xs.length → P (.lst ds) (env n')) : dLc di g ttYes te vs δ P := by
  refine hd _ ⟨fun i acc δ2 => ∃ n, δ2 = env n ∧ i ≤ xs.length ∧ acc.length = i ∧ (∀ d ∈ acc, good d) ∧ n0 ≤ n + c * i, ⟨n0, rfl, Nat.zero_le _, rfl, (fun _ h => nomatch h), by omega⟩, ?_, ?_, ?_⟩
  · rintro i acc δ2 ⟨n, rfl, _⟩
    exact ⟨hok n, hf n⟩
  · rintro i x acc δ2 hx ⟨n, rfl, hi, hl, hg, hb⟩
    have hlt : i < xs.length := (List.getElem?_eq_some_iff.mp hx).1
    have hc : c * (i + 1) ≤ c * xs.length := Nat.mul_le_mul_left c hlt
    rw [Nat.mul_add, Nat.mul_one] at hc
    refine h x (List.mem_of_getElem? hx) n (by omega) _ fun d n' δ5 gd hn' h5 => ⟨by omega, n', h5, hlt, by simp [hl], fun y hy => ?_, by rw [Nat.mul_add, Nat.mul_one]; omega⟩
    rcases List.mem_append.mp hy with hy | hy
    · exact hg y hy
    · rw [List.mem_singleton.mp hy]; exact gd
  · rintro acc δ2 ⟨n, rfl, _, hl, hg, hb⟩
    exact hR acc n hl hg hb
theorem pick {α : Type} {l : List α} {r : Int} (h0 : 0 ≤ r) (h1 : r < l.length) : ∃ c, atI l r = some c ∧ c ∈ l := by
  obtain ⟨k, rfl⟩ : ∃ k : Nat, r = k := ⟨r.toNat, by omega⟩
  have hk : k < l.length := by omega
  exact ⟨l[k], atI_nat (List.getElem?_eq_getElem hk), List.getElem_mem hk⟩
/-- a call with the reader in slot 0 -/
theorem c0 {rsp : RSp} {δ : DEnv} {P : U → DEnv → Prop} {ls : Addr} {n : Nat} (h0 : δ[0]? = some (some (.rdr ls n))) (h : rsp n [] fun w n' => P w (δ.set 0 (some (.rdr ls n')))) : dCallR rsp (dCons (dVar 0) dNil) δ P := by
  simp [h0]
  exact h
def contR (rsp : RSp) (P : U → DEnv → Prop) : U → DEnv → Prop := fun w δ1 => dNil δ1 fun ws δ2 => match (δ2[0]? : Option (Option U)), allD (w :: ws) with
  | some (some (.rdr ls n)), some ds => rsp n ds fun w n' => P w (δ2.set 0 (some (.rdr ls n')))
  | _, _ => False
theorem contR_d {rsp : RSp} {P : U → DEnv → Prop} {δ1 : DEnv} {ls : Addr} {n : Nat} {x : D} (h0 : δ1[0]? = some (some (.rdr ls n))) (h : rsp n [x] fun w n' => P w (δ1.set 0 (some (.rdr ls n')))) : contR rsp P (.d x) δ1 := by
  simp only [contR, dNil, h0, allD]
  exact h
theorem c1 {rsp : RSp} {de : DE} {δ : DEnv} {P : U → DEnv → Prop} {ls : Addr} {n : Nat} (h0 : δ[0]? = some (some (.rdr ls n))) (h : de δ (contR rsp P)) : dCallR rsp (dCons (dVar 0) (dCons de dNil)) δ P := by
  simp only [dCallR, dCons, dVar, h0]
  exact h
/-! ### words -/
def p_l_small : RSp := fun n a R => ∃ k : Nat, a = [.int (k : Nat)] ∧ k ≤ 8 ∧ 8 ≤ n ∧ ∀ (l : Cs) n', l.length = k → (∀ c ∈ l, c ∈ SMALL) → n ≤ n' + 8 → R (.d (.str l)) n'
@[simp] theorem e_l_small (n k : Nat) (R : U → Nat → Prop) : p_l_small n [.int (k : Nat)] R ↔ k ≤ 8 ∧ 8 ≤ n ∧ ∀ (l : Cs) n', l.length = k → (∀ c ∈ l, c ∈ SMALL) → n ≤ n' + 8 → R (.d (.str l)) n' := by
  unfold p_l_small
  constructor
  · rintro ⟨k', e, h⟩
    simp only [List.cons.injEq, D.int.injEq, and_true] at e
    rw [Int.ofNat.inj e]
    exact h
  · exact fun h => ⟨k, rfl, h⟩
theorem len_l_small (n : Nat) (a : List D) (R : U → Nat → Prop) (h : p_l_small n a R) : a.length + 1 = 2 := by
  obtain ⟨k, rfl, _⟩ := h
  rfl
def p_l_family : RSp := fun n a R => a = [] ∧ 30 ≤ n ∧ ∀ (l : Cs) n', isFamL l = true → l.length ≤ 8 → n ≤ n' + 30 → R (.d (.str l)) n'
@[simp] theorem e_l_family (n : Nat) (R : U → Nat → Prop) : p_l_family n [] R ↔ 30 ≤ n ∧ ∀ (l : Cs) n', isFamL l = true → l.length ≤ 8 → n ≤ n' + 30 → R (.d (.str l)) n' := by simp [p_l_family]
theorem len_l_family (n : Nat) (a : List D) (R : U → Nat → Prop) (h : p_l_family n a R) : a.length + 1 = 1 := by
  obtain ⟨rfl, _⟩ := h
  rfl
def ds_l_small : DS :=
    (sSeq (sSet (dC (.str k_abcdefghijklmnopqrst)) 2)
    (sRet (dMS mJoin (dC (.str k_empty)) (dCons (dLc (icR (dVar 1)) (gN 3) ttYes (d2 vIx (dVar 2) (dCallR p_l_draw (dCons (dVar 0) (dCons (dC (.int 26)) dNil)))) [3]) dNil))))

def ds_l_family : DS :=
    (sRet (d2 (p2 sCat) (dMS mUpper (dCallR p_l_small (dCons (dVar 0) (dCons (dC (.int 1)) dNil))) dNil) (dCallR p_l_small (dCons (dVar 0) (dCons (d2 vIx (dTup (dCons (dC (.int 0)) (dCons (dC (.int 1)) (dCons (dC (.int 2)) (dCons (dC (.int 3)) (dCons (dC (.int 7)) dNil)))))) (dCallR p_l_draw (dCons (dVar 0) (dCons (dC (.int 5)) dNil)))) dNil)))))
theorem joinStrs {ds : List D} {good : Cs → Prop} (h : ∀ d ∈ ds, ∃ l, d = .str l ∧ good l) : ∃ ls : List Cs, ds = ls.map D.str ∧ ls.length = ds.length ∧ ∀ l ∈ ls, good l := by
  induction ds with
  | nil => exact ⟨[], rfl, rfl, fun _ h => nomatch h⟩
  | cons d r ih =>
    obtain ⟨l, rfl, hl⟩ := h d (by simp)
    obtain ⟨ls, rfl, h1, h2⟩ := ih fun y hy => h y (by simp [hy])
    exact ⟨l :: ls, rfl, by simp, fun y hy => by
      rcases List.mem_cons.mp hy with rfl | hy
      · exact hl
      · exact h2 y hy⟩
theorem sem_l_small (n : Nat) (ls : Addr) (a : List D) (R : U → Nat → Prop) (h : p_l_small n a R) : ds_l_small { nx := fun δ => ∃ n', δ[0]? = some (some (.rdr ls n')) ∧ R (.d .non) n', rt := fun w δ => ∃ n', δ[0]? = some (some (.rdr ls n')) ∧ (∃ y, w = .d y) ∧ R w n' } (slots N_l_small (.rdr ls n :: a.map U.d)) := by
  obtain ⟨k, rfl, h1, h2, h⟩ := h
  simp only [ds_l_small, sSeq, sSet, dC, sRet, dMS, dCons]
  refine ⟨trivial, ?_⟩
  refine dLc_rd (xs := rngD k) (ok := fun _ => True) (fun d => ∃ l, d = .str l ∧ (l.length = 1 ∧ ∀ c ∈ l, c ∈ SMALL)) 1 (fun n => [some (.rdr ls n), some (.d (.int (k : Nat))), some (.d (.str SMALL)), none]) n (fun R' h => ?_) (fun _ => trivial) (fun n => free1 rfl) (by simp [rngD]; exact thou (by omega)) (by simp [rngD]; omega) (fun x hx m hm P hP => ?_) (fun ds n' hl hg hn => ?_)
  · exact ⟨by omega, by omega, h⟩
  · simp
    refine ⟨by omega, fun r r0 r1 => ⟨mill (by decide), ?_⟩⟩
    obtain ⟨c, e, hc⟩ := pick (l := SMALL) r0 (by exact r1)
    rw [e]
    exact hP _ (m - 1) _ ⟨[c], rfl, rfl, fun d hd => by rw [List.mem_singleton.mp hd]; exact hc⟩ (by omega) rfl
  · obtain ⟨ws, rfl, h3, h4⟩ := joinStrs hg
    have hk : (rngD k).length = k := by simp [rngD]
    rw [hk] at hl hn
    simp only [dNil, mJoin, seqU, Option.bind_some, strsOf_map]
    have hs := sum_le (f := List.length) (k := 1) (xs := ws) fun l hl => by rw [(h4 l hl).1]; exact Nat.le_refl _
    refine ⟨Nat.le_trans hs (by omega), n', rfl, ⟨_, rfl⟩, h _ _ ?_ (fun c hc => ?_) (by omega)⟩
    · rw [List.length_flatten]
      have : ws.map List.length = ws.map fun _ => 1 := List.map_congr_left fun l hl => (h4 l hl).1
      rw [this, sum_const]
      omega
    · obtain ⟨l, hl, hc⟩ := List.mem_flatten.mp hc
      exact (h4 l hl).2 c hc
theorem small_up : ∀ c ∈ SMALL, PyProof.Rows.up1 c ∈ CAPS := by decide
theorem up_small {l : Cs} (h : ∀ c ∈ l, c ∈ SMALL) : (upC l).length = l.length ∧ ∀ c ∈ upC l, c ∈ CAPS := by
  rw [upC_eq fun c hc => small_lt c (h c hc)]
  refine ⟨by simp, fun c hc => ?_⟩
  obtain ⟨d, hd, rfl⟩ := List.mem_map.mp hc
  exact small_up d (h d hd)
theorem fam_of {u l : Cs} (h1 : u.length = 1) (hu : ∀ c ∈ u, c ∈ SMALL) (hl : ∀ c ∈ l, c ∈ SMALL) : isFamL (upC u ++ l) = true := by
  obtain ⟨e, hc⟩ := up_small hu
  match h : upC u, e, hc with
  | [c], _, hc =>
    simp only [List.singleton_append, isFamL, Bool.and_eq_true, decide_eq_true_eq]
    exact ⟨hc c (by simp), allOf_iff.mpr hl⟩
  | [], e, _ => rw [h1] at e; cases e
  | _ :: _ :: _, e, _ => rw [h1] at e; simp at e
theorem sem_l_family (n : Nat) (ls : Addr) (a : List D) (R : U → Nat → Prop) (h : p_l_family n a R) : ds_l_family { nx := fun δ => ∃ n', δ[0]? = some (some (.rdr ls n')) ∧ R (.d .non) n', rt := fun w δ => ∃ n', δ[0]? = some (some (.rdr ls n')) ∧ (∃ y, w = .d y) ∧ R w n' } (slots N_l_family (.rdr ls n :: a.map U.d)) := by
  obtain ⟨rfl, h2, h⟩ := h
  simp only [ds_l_family, sRet, d2, dMS]
  refine c1 rfl ?_
  refine contR_d (x := .int ((1 : Nat) : Int)) rfl ((e_l_small _ _ _).mpr ⟨by omega, by omega, fun u n1 u1 u2 u3 => ?_⟩)
  refine ⟨trivial, rfl, by omega, ?_⟩
  refine c1 rfl ?_
  refine ⟨mill (by decide), ?_⟩
  refine c1 rfl ?_
  refine contR_d (x := .int 5) rfl ((e_l_draw _ _ _).mpr ⟨by omega, by decide, by decide, fun r r0 r1 => ?_⟩)
  obtain ⟨c, e, hc⟩ := pick (l := [D.int 0, D.int 1, D.int 2, D.int 3, D.int 7]) r0 (by exact r1)
  have hk : ∃ k : Nat, c = .int (k : Nat) ∧ k ≤ 7 := by
    simp only [List.mem_cons, List.not_mem_nil, or_false] at hc
    rcases hc with rfl | rfl | rfl | rfl | rfl
    · exact ⟨0, rfl, by omega⟩
    · exact ⟨1, rfl, by omega⟩
    · exact ⟨2, rfl, by omega⟩
    · exact ⟨3, rfl, by omega⟩
    · exact ⟨7, rfl, by omega⟩
  obtain ⟨k, rfl, hk⟩ := hk
  simp only [vIx, seqU, e]
  refine contR_d rfl ((e_l_small _ _ _).mpr ⟨by omega, by omega, fun v n2 v1 v2 v3 => ?_⟩)
  have ul := up_small u2
  simp only [p2, sCat]
  rw [if_pos (mill (by omega))]
  exact ⟨n2, rfl, ⟨_, rfl⟩, h _ _ (fam_of u1 u2 v2) (by rw [List.length_append]; omega) (by omega)⟩
section
variable {P : Program} {w : World} {K : PySem.W.Frag} {mg : Str → Option Value} {base : Heap}
theorem ok_l_small (T : Txt K mg) (F : Df K mg "_law_small" s_l_small) (O_l_draw : Ok P w K mg base 2 "_law_draw" ["_law_reader_here", "_law_many"] (spR K p_l_draw)) : Ok P w K mg base 3 "_law_small" ["_law_reader_here", "_law_many"] (spR K p_l_small) := by
  obtain ⟨f, fd, F, g⟩ := F
  refine ⟨f, fd, fnR F sc_l_small (fun n a R h => len_l_small n a R h) (by decide) (ds := ds_l_small) (fun cdv A outer s H E hr => ?_) sem_l_small, g, F.kp, F.binds fun _ _ _ _ _ _ us hl => match us, hl with | [_, _], _ => rfl⟩
  exact (dss_cons (ds_set 2 (by decide) sc_l_small.nd (de_str e_abcdefghijklmnopqrst))
    (dss_one (ds_ret (de_ms PySem.F.plainAttrs_str PySem.F.slot_str_join PySem.F.type_str_join mt_join lift_join (de_str e_empty) (da_cons (de_lc (own := [("_law_k", 3)]) rfl sc_l_small.nd (ic_rng (by rfl) T.m_range (dv 1)) (blkOk_by (own := [("_law_k", 3)]) (N := N_l_small) (sc := defScope s_l_small) (by decide +kernel)) (fun _ _ _ _ _ => (dg_name 3 (by decide) sc_l_small.nd)) (fun _ _ _ _ _ => dts_nil) (fun _ _ _ _ _ => (de_ix ix_seq lift_ix (dv 2) (dcallR O_l_draw (by exact hr.mono (by decide)) (by rfl) (da_cons (dv 0) (da_cons de_int da_nil)))))) da_nil)))))

theorem ok_l_family (T : Txt K mg) (F : Df K mg "_law_family" s_l_family) (O_l_small : Ok P w K mg base 3 "_law_small" ["_law_reader_here", "_law_many"] (spR K p_l_small)) (O_l_draw : Ok P w K mg base 2 "_law_draw" ["_law_reader_here", "_law_many"] (spR K p_l_draw)) : Ok P w K mg base 4 "_law_family" ["_law_reader_here"] (spR K p_l_family) := by
  obtain ⟨f, fd, F, g⟩ := F
  refine ⟨f, fd, fnR F sc_l_family (fun n a R h => len_l_family n a R h) (by decide) (ds := ds_l_family) (fun cdv A outer s H E hr => ?_) sem_l_family, g, F.kp, F.binds fun _ _ _ _ _ _ us hl => match us, hl with | [_], _ => rfl⟩
  exact (dss_one (ds_ret (de_op op_add_str lift_sCat (de_ms0 PySem.F.plainAttrs_str PySem.F.slot_str_upper PySem.F.type_str_upper mt_upper lift_upper (dcallR O_l_small (by exact hr.mono (by decide)) (by rfl) (da_cons (dv 0) (da_cons de_int da_nil)))) (dcallR O_l_small (by exact hr.mono (by decide)) (by rfl) (da_cons (dv 0) (da_cons (de_ix ix_seq lift_ix (de_tup (da_cons de_int (da_cons de_int (da_cons de_int (da_cons de_int (da_cons de_int da_nil)))))) (dcallR O_l_draw (by exact hr.mono (by decide)) (by rfl) (da_cons (dv 0) (da_cons de_int da_nil)))) da_nil))))))
end
end Ib
set_option Elab.async false
set_option linter.all false
set_option autoImplicit false
set_option maxRecDepth 100000
set_option maxHeartbeats 4000000
/-! IbM12: texts, marks, ways to show names. -/
namespace Ib
open PySem PySem.Spec PyProof.Rows L2 TL PySem.W
variable [Tabl]
section
variable {δ : DEnv} {P : U → DEnv → Prop} {T : Bool → DEnv → Prop}
theorem dCa {x : D} (h : P (.d x) δ) : dC x δ P := h
theorem dVara {i : Nat} {x : D} (e : δ[i]? = some (some (.d x))) (h : P (.d x) δ) : dVar i δ P := by
  simp only [dVar, e]
  exact h
theorem ixLa {i : Nat} {j : Int} {xs : List D} {x : D} (e : δ[i]? = some (some (.lst xs))) (a : atI xs j = some x) (h : P (.d x) δ) : d2 vIx (dVar i) (dC (.int j)) δ P := by
  simp only [d2, dVar, e, dC, vIx, seqU, a]
  exact h
theorem ixTa {i : Nat} {j : Int} {xs : List D} {x : D} (e : δ[i]? = some (some (.d (.tup xs)))) (a : atI xs j = some x) (h : P (.d x) δ) : d2 vIx (dVar i) (dC (.int j)) δ P := by
  simp only [d2, dVar, e, dC, vIx, seqU, a]
  exact h
theorem opIa {f : Int → Int → Int} {a b : DE} (h : a δ fun x δ1 => b δ1 fun y δ2 => p2 (iOp f) x y δ2 P) : d2 (p2 (iOp f)) a b δ P := h
theorem dIfa {c : DT} {da db : DE} (h : c δ fun k δ1 => ifB k (da δ1 P) (db δ1 P)) : dIf c da db δ P := h
theorem dTupa {da : DA} (h : da δ fun ws δ1 => match allD ws with
    | some ds => ds.length ≤ sizeLine ∧ P (.d (.tup ds)) δ1
    | none => False) : dTup da δ P := h
theorem dConsa {a : DE} {as : DA} {Q : List U → DEnv → Prop} (h : a δ fun w δ1 => as δ1 fun ws δ2 => Q (w :: ws) δ2) : dCons a as δ Q := h
theorem join_rd {di : DIC} {g : DG} {te : DE} {vs : List Nat} {xs : List D} {ok : DEnv → Prop} (good : Cs → Prop) (m c : Nat) (env : Nat → DEnv) (n0 : Nat)
    (hd : ∀ R' : List D → (DEnv → Prop) → DEnv → Prop, R' xs ok (env n0) → di δ R') (hok : ∀ n, ok (env n)) (hf : ∀ n, Free (env n) vs) (hz : xs.length ≤ 1000) (hn : c * xs.length ≤ n0) (hm : ∀ l, good l → l.length ≤ m) (hm2 : m * xs.length ≤ 1000)
    (h : ∀ x ∈ xs, ∀ n, c ≤ n → ∀ P : U → DEnv → Prop, (∀ l n' δ5, good l → n ≤ n' + c → wipeE δ5 vs = env n' → P (.d (.str l)) δ5) → g x (env n) fun δ3 => te δ3 P)
    (hR : ∀ (ls : List Cs) n', ls.length = xs.length → (∀ l ∈ ls, good l) → n0 ≤ n' + c * xs.length → P (.d (.str ls.flatten)) (env n')) : dMS mJoin (dC (.str [])) (dCons (dLc di g ttYes te vs) dNil) δ P := by
  simp only [dMS, dC, dCons]
  refine ⟨trivial, ?_⟩
  refine dLc_rd (fun d => ∃ l, d = .str l ∧ good l) c env n0 hd hok hf (thou hz) hn (fun x hx n hn P hP => h x hx n hn P fun l n' δ5 hl => hP (.str l) n' δ5 ⟨l, rfl, hl⟩) fun ds n' hl hg hn => ?_
  obtain ⟨ws, rfl, h3, h4⟩ := joinStrs hg
  simp only [dNil, mJoin, seqU, Option.bind_some, strsOf_map]
  have hs := sum_le (f := List.length) (k := m) (xs := ws) fun l hl => hm l (h4 l hl)
  rw [List.length_map] at hl
  rw [hl] at hs
  exact ⟨Nat.le_trans hs (by omega), hR ws n' hl h4 hn⟩
end
def p_l_text : RSp := fun n a R => ∃ k : Nat, a = [.int (k : Nat)] ∧ k ≤ 3 ∧ 10 ≤ n ∧ ∀ (l : Cs) n', l.length = k → l.all prn = true → n ≤ n' + 10 → R (.d (.str l)) n'
@[simp] theorem e_l_text (n k : Nat) (R : U → Nat → Prop) : p_l_text n [.int (k : Nat)] R ↔ k ≤ 3 ∧ 10 ≤ n ∧ ∀ (l : Cs) n', l.length = k → l.all prn = true → n ≤ n' + 10 → R (.d (.str l)) n' := by
  unfold p_l_text
  constructor
  · rintro ⟨k', e, h⟩
    simp only [List.cons.injEq, D.int.injEq, and_true] at e
    rw [Int.ofNat.inj e]
    exact h
  · exact fun h => ⟨k, rfl, h⟩
theorem len_l_text (n : Nat) (a : List D) (R : U → Nat → Prop) (h : p_l_text n a R) : a.length + 1 = 2 := by
  obtain ⟨k, rfl, _⟩ := h
  rfl
def p_l_mark : RSp := fun n a R => a = [] ∧ 20 ≤ n ∧ ∀ (l : Cs) n', txtL 1 3 l = true → n ≤ n' + 20 → R (.d (PP.mk l).toD) n'
@[simp] theorem e_l_mark (n : Nat) (R : U → Nat → Prop) : p_l_mark n [] R ↔ 20 ≤ n ∧ ∀ (l : Cs) n', txtL 1 3 l = true → n ≤ n' + 20 → R (.d (PP.mk l).toD) n' := by simp [p_l_mark]
theorem len_l_mark (n : Nat) (a : List D) (R : U → Nat → Prop) (h : p_l_mark n a R) : a.length + 1 = 1 := by
  obtain ⟨rfl, _⟩ := h
  rfl
def p_l_shown : RSp := fun n a R => a = [] ∧ 100 ≤ n ∧ ∀ (s : Shown) n', s.Ok → n ≤ n' + 100 → R (.d s.toD) n'
@[simp] theorem e_l_shown (n : Nat) (R : U → Nat → Prop) : p_l_shown n [] R ↔ 100 ≤ n ∧ ∀ (s : Shown) n', s.Ok → n ≤ n' + 100 → R (.d s.toD) n' := by simp [p_l_shown]
theorem len_l_shown (n : Nat) (a : List D) (R : U → Nat → Prop) (h : p_l_shown n a R) : a.length + 1 = 1 := by
  obtain ⟨rfl, _⟩ := h
  rfl
def ds_l_text : DS :=
    (sSeq (sSet (dC (.str k________________01234)) 2)
    (sSeq (sSet (dC (.str k_x32_44_59_58)) 3)
    (sSeq (sSet (dIf (dB (d2 (p2 sEq) (dCallR p_l_draw (dCons (dVar 0) (dCons (dC (.int 2)) dNil))) (dC (.int 0)))) (dVar 2) (dVar 3)) 4)
    (sRet (dMS mJoin (dC (.str k_empty)) (dCons (dLc (icR (dVar 1)) (gN 5) ttYes (d2 vIx (dVar 4) (dCallR p_l_draw (dCons (dVar 0) (dCons (dCB (vOne fLen) (dCons (dVar 4) dNil)) dNil)))) [5]) dNil))))))

def ds_l_mark : DS :=
    (sRet (dTup (dCons (dC (.str k_mark)) (dCons (dCallR p_l_text (dCons (dVar 0) (dCons (d2 (p2 (iOp fun i j => i + j)) (dC (.int 1)) (dCallR p_l_draw (dCons (dVar 0) (dCons (dC (.int 3)) dNil)))) dNil))) dNil))))

def ds_l_shown : DS :=
    (sSeq (sSet (d2 vIx (dTup (dCons (dC (.str k_ahead)) (dCons (dC (.str k_behind)) (dCons (dC (.str k_behind)) (dCons (dC (.str k_none)) dNil))))) (dCallR p_l_draw (dCons (dVar 0) (dCons (dC (.int 4)) dNil)))) 1)
    (sSeq (sSet (d2 (p2 sEq) (dCallR p_l_draw (dCons (dVar 0) (dCons (dC (.int 2)) dNil))) (dC (.int 0))) 2)
    (sSeq (sSet (dLc (icR (dC (.int 3))) (gN 5) ttYes (dCallR p_l_text (dCons (dVar 0) (dCons (dCallR p_l_draw (dCons (dVar 0) (dCons (dC (.int 4)) dNil))) dNil))) [5]) 3)
    (sSeq (sSet (dCallR p_l_text (dCons (dVar 0) (dCons (dCallR p_l_draw (dCons (dVar 0) (dCons (dC (.int 3)) dNil))) dNil))) 4)
    (sRet (dTup (dCons (dVar 1) (dCons (dVar 2) (dCons (dVar 4) (dCons (d2 vIx (dVar 3) (dC (.int 0))) (dCons (d2 vIx (dVar 3) (dC (.int 1))) (dCons (d2 (p2 (iOp fun i j => i + j)) (dC (.int 1)) (dCallR p_l_draw (dCons (dVar 0) (dCons (dC (.int 3)) dNil)))) (dCons (d2 vIx (dVar 3) (dC (.int 2))) dNil)))))))))))))
abbrev SIGNS : Cs := k________________01234
abbrev FEW : Cs := k_x32_44_59_58
theorem signs_ok : SIGNS.all prn = true := by decide
theorem few_ok : FEW.all prn = true := by decide
theorem sem_l_text (n : Nat) (ls : Addr) (a : List D) (R : U → Nat → Prop) (h : p_l_text n a R) : ds_l_text { nx := fun δ => ∃ n', δ[0]? = some (some (.rdr ls n')) ∧ R (.d .non) n', rt := fun w δ => ∃ n', δ[0]? = some (some (.rdr ls n')) ∧ (∃ y, w = .d y) ∧ R w n' } (slots N_l_text (.rdr ls n :: a.map U.d)) := by
  obtain ⟨k, rfl, h1, h2, h⟩ := h
  have main : ∀ (row : Cs) (n1 : Nat), row.all prn = true → 1 ≤ row.length → row.length ≤ 100 → n ≤ n1 + 1 → dMS mJoin (dC (.str k_empty)) (dCons (dLc (icR (dVar 1)) (gN 5) ttYes (d2 vIx (dVar 4) (dCallR p_l_draw (dCons (dVar 0) (dCons (dCB (vOne fLen) (dCons (dVar 4) dNil)) dNil)))) [5]) dNil) [some (.rdr ls n1), some (.d (.int (k : Nat))), some (.d (.str SIGNS)), some (.d (.str FEW)), some (.d (.str row)), none] fun w δ => ∃ n', δ[0]? = some (some (.rdr ls n')) ∧ (∃ y, w = .d y) ∧ R w n' := by
    intro row n1 hrow l0 l1 hn1
    refine join_rd (xs := rngD k) (ok := fun _ => True) (fun l => l.length = 1 ∧ l.all prn = true) 1 1 (fun n => [some (.rdr ls n), some (.d (.int (k : Nat))), some (.d (.str SIGNS)), some (.d (.str FEW)), some (.d (.str row)), none]) n1 (fun R' h => ?_) (fun _ => trivial) (fun n => free1 rfl) (by simp [rngD]; omega) (by simp [rngD]; omega) (fun l hl => by omega) (by simp [rngD]; omega) (fun x hx m hm P hP => ?_) (fun ws n' hl hg hn => ?_)
    · exact ⟨by omega, by omega, h⟩
    · simp only [gN, d2]
      refine dVara rfl ?_
      refine c1 rfl ?_
      refine ⟨thou (by omega), ?_⟩
      refine contR_d (x := .int (row.length : Nat)) rfl ((e_l_draw _ _ _).mpr ⟨by omega, by omega, by omega, fun r r0 r1 => ?_⟩)
      obtain ⟨c, e, hc⟩ := pick (l := row) r0 r1
      simp only [vIx, e]
      refine ⟨thou (by omega), ?_⟩
      exact hP _ (m - 1) _ ⟨rfl, by simp; exact List.all_eq_true.mp hrow c hc⟩ (by omega) rfl
    · have hk : (rngD k).length = k := by simp [rngD]
      rw [hk] at hl hn
      refine ⟨n', rfl, ⟨_, rfl⟩, h _ _ ?_ ?_ (by omega)⟩
      · rw [List.length_flatten]
        have : ws.map List.length = ws.map fun _ => 1 := List.map_congr_left fun l hl => (hg l hl).1
        rw [this, sum_const]
        omega
      · rw [List.all_eq_true]
        intro c hc
        obtain ⟨l, hl, hc⟩ := List.mem_flatten.mp hc
        exact List.all_eq_true.mp (hg l hl).2 c hc
  simp only [ds_l_text, sSeq, sSet, dC, sRet, dIf, dB, d2]
  refine c1 rfl ?_
  refine contR_d (x := .int 2) rfl ((e_l_draw _ _ _).mpr ⟨by omega, by decide, by decide, fun r r0 r1 => ?_⟩)
  simp only [p2, sEq]
  refine ifB_of (fun _ => ?_) fun _ => ?_
  · exact main SIGNS (n - 1) signs_ok (by decide) (by decide) (by omega)
  · exact main FEW (n - 1) few_ok (by decide) (by decide) (by omega)
theorem sem_l_mark (n : Nat) (ls : Addr) (a : List D) (R : U → Nat → Prop) (h : p_l_mark n a R) : ds_l_mark { nx := fun δ => ∃ n', δ[0]? = some (some (.rdr ls n')) ∧ R (.d .non) n', rt := fun w δ => ∃ n', δ[0]? = some (some (.rdr ls n')) ∧ (∃ y, w = .d y) ∧ R w n' } (slots N_l_mark (.rdr ls n :: a.map U.d)) := by
  obtain ⟨rfl, h2, h⟩ := h
  simp only [ds_l_mark, sRet, d2]
  refine dTupa (dConsa (dCa (dConsa ?_)))
  refine c1 rfl ?_
  refine dCa ?_
  refine c1 rfl ?_
  refine contR_d (x := .int 3) rfl ((e_l_draw _ _ _).mpr ⟨by omega, by decide, by decide, fun r r0 r1 => ?_⟩)
  obtain ⟨k, rfl⟩ : ∃ k : Nat, r = k := ⟨r.toNat, by omega⟩
  simp only [p2, iOp]
  rw [show (1 + (k : Int)) = ((1 + k : Nat) : Int) by omega]
  refine contR_d rfl ((e_l_text _ _ _).mpr ⟨by omega, by omega, fun l n1 h3 h4 h5 => ?_⟩)
  exact ⟨mill (by simp), n1, rfl, ⟨_, rfl⟩, h l n1 (by simp [txtL, h3, h4]; omega) (by omega)⟩
theorem texts {ds : List D} (hl : ds.length = 3) (h : ∀ d ∈ ds, ∃ l, d = .str l ∧ txtL 0 3 l = true) : ∃ a b c, ds = [.str a, .str b, .str c] ∧ txtL 0 3 a = true ∧ txtL 0 3 b = true ∧ txtL 0 3 c = true := by
  match ds, hl with
  | [x, y, z], _ =>
    obtain ⟨a, rfl, ha⟩ := h x (by simp)
    obtain ⟨b, rfl, hb⟩ := h y (by simp)
    obtain ⟨c, rfl, hc⟩ := h z (by simp)
    exact ⟨a, b, c, rfl, ha, hb, hc⟩
theorem sem_l_shown (n : Nat) (ls : Addr) (a : List D) (R : U → Nat → Prop) (h : p_l_shown n a R) : ds_l_shown { nx := fun δ => ∃ n', δ[0]? = some (some (.rdr ls n')) ∧ R (.d .non) n', rt := fun w δ => ∃ n', δ[0]? = some (some (.rdr ls n')) ∧ (∃ y, w = .d y) ∧ R w n' } (slots N_l_shown (.rdr ls n :: a.map U.d)) := by
  obtain ⟨rfl, h2, h⟩ := h
  simp only [ds_l_shown, sSeq, sSet, sRet, d2]
  refine dTupa ⟨mill (by decide), ?_⟩
  refine c1 rfl ?_
  refine contR_d (x := .int 4) rfl ((e_l_draw _ _ _).mpr ⟨by omega, by decide, by decide, fun r r0 r1 => ?_⟩)
  obtain ⟨g, e, hg⟩ := pick (l := [D.str k_ahead, D.str k_behind, D.str k_behind, D.str k_none]) r0 r1
  have hg : ∃ gi, g = .str gi ∧ gi ∈ WAY := by
    simp only [List.mem_cons, List.not_mem_nil, or_false] at hg
    rcases hg with rfl | rfl | rfl | rfl <;> exact ⟨_, rfl, by decide⟩
  obtain ⟨gi, rfl, hgi⟩ := hg
  simp only [vIx, seqU, e]
  refine c1 rfl ?_
  refine contR_d (x := .int 2) rfl ((e_l_draw _ _ _).mpr ⟨by omega, by decide, by decide, fun r2 r20 r21 => ?_⟩)
  refine dCa ?_
  simp only [p2, sEq]
  generalize decide (r2 = 0) = dot
  refine dLc_rd (xs := rngD 3) (ok := fun _ => True) (fun d => ∃ l, d = .str l ∧ txtL 0 3 l = true) 20 (fun n => [some (.rdr ls n), some (.d (.str gi)), some (.d (.bl dot)), none, none, none]) (n - 1 - 1) (fun R' h => ?_) (fun _ => trivial) (fun n => free1 rfl) (by simp [rngD]; exact thou (by omega)) (by simp [rngD]; omega) (fun x hx m hm P hP => ?_) (fun ds n' hl hg hn => ?_)
  · exact ⟨by omega, by omega, h⟩
  · simp only [gN]
    refine c1 rfl ?_
    refine c1 rfl ?_
    refine contR_d (x := .int 4) rfl ((e_l_draw _ _ _).mpr ⟨by omega, by decide, by decide, fun r r0 r1 => ?_⟩)
    obtain ⟨k, rfl⟩ : ∃ k : Nat, r = k := ⟨r.toNat, by omega⟩
    refine contR_d rfl ((e_l_text _ _ _).mpr ⟨by omega, by omega, fun l n1 h3 h4 h5 => ?_⟩)
    exact hP _ n1 _ ⟨l, rfl, by simp [txtL, h3, h4]; omega⟩ (by omega) rfl
  · have hk : (rngD 3).length = 3 := rfl
    rw [hk] at hl hn
    obtain ⟨ta, tb, tc, rfl, h3, h4, h5⟩ := texts hl hg
    refine c1 rfl ?_
    refine c1 rfl ?_
    refine contR_d (x := .int 3) rfl ((e_l_draw _ _ _).mpr ⟨by omega, by decide, by decide, fun r r0 r1 => ?_⟩)
    obtain ⟨k, rfl⟩ : ∃ k : Nat, r = k := ⟨r.toNat, by omega⟩
    refine contR_d rfl ((e_l_text _ _ _).mpr ⟨by omega, by omega, fun gap n1 g3 g4 g5 => ?_⟩)
    refine dTupa (dConsa (dVara rfl (dConsa (dVara rfl (dConsa (dVara rfl (dConsa ?_)))))))
    refine ixLa rfl (atI_zero _ _) (dConsa (ixLa rfl (atI_1 _ _ _) (dConsa (opIa (dCa ?_)))))
    refine c1 rfl ?_
    refine contR_d (x := .int 3) rfl ((e_l_draw _ _ _).mpr ⟨by omega, by decide, by decide, fun r r0 r1 => ?_⟩)
    obtain ⟨m, rfl⟩ : ∃ k : Nat, r = k := ⟨r.toNat, by omega⟩
    simp only [p2, iOp]
    rw [show (1 + (m : Int)) = ((1 + m : Nat) : Int) by omega]
    refine dConsa (ixLa rfl (atI_2 _ _ _ _) ?_)
    have ok : (Shown.mk gi dot gap ta tb (1 + m) tc).Ok := ⟨hgi, by simp [txtL, g3, g4]; omega, h3, h4, h5, Nat.le_add_right _ _, by show 1 + m ≤ 3; omega⟩
    exact ⟨mill (by simp), _, rfl, ⟨_, rfl⟩, h _ _ ok (by omega)⟩
section
variable {P : Program} {w : World} {K : PySem.W.Frag} {mg : Str → Option Value} {base : Heap}
theorem ok_l_text (T : Txt K mg) (F : Df K mg "_law_text" s_l_text) (O_l_draw : Ok P w K mg base 2 "_law_draw" ["_law_reader_here", "_law_many"] (spR K p_l_draw)) : Ok P w K mg base 3 "_law_text" ["_law_reader_here", "_law_many"] (spR K p_l_text) := by
  obtain ⟨f, fd, F, g⟩ := F
  refine ⟨f, fd, fnR F sc_l_text (fun n a R h => len_l_text n a R h) (by decide) (ds := ds_l_text) (fun cdv A outer s H E hr => ?_) sem_l_text, g, F.kp, F.binds fun _ _ _ _ _ _ us hl => match us, hl with | [_, _], _ => rfl⟩
  exact (dss_cons (ds_set 2 (by decide) sc_l_text.nd (de_str e________________01234))
    (dss_cons (ds_set 3 (by decide) sc_l_text.nd (de_str e_x32_44_59_58))
    (dss_cons (ds_set 4 (by decide) sc_l_text.nd (de_ifExp (dt_cmp op_eq lift_eq (dcallR O_l_draw (by exact hr.mono (by decide)) (by rfl) (da_cons (dv 0) (da_cons de_int da_nil))) de_int (nomark _)) (dv 2) (dv 3)))
    (dss_one (ds_ret (de_ms PySem.F.plainAttrs_str PySem.F.slot_str_join PySem.F.type_str_join mt_join lift_join (de_str e_empty) (da_cons (de_lc (own := [("_law_k", 5)]) rfl sc_l_text.nd (ic_rng (by rfl) T.m_range (dv 1)) (blkOk_by (own := [("_law_k", 5)]) (N := N_l_text) (sc := defScope s_l_text) (by decide +kernel)) (fun _ _ _ _ _ => (dg_name 5 (by decide) sc_l_text.nd)) (fun _ _ _ _ _ => dts_nil) (fun _ _ _ _ _ => (de_ix ix_seq lift_ix (dv 4) (dcallR O_l_draw (by exact hr.mono (by decide)) (by rfl) (da_cons (dv 0) (da_cons (de_callB call_len lift_len (by rfl) T.m_len (by decide +kernel) (da_cons (dv 4) da_nil)) da_nil)))))) da_nil)))))))

theorem ok_l_mark (T : Txt K mg) (F : Df K mg "_law_mark" s_l_mark) (O_l_text : Ok P w K mg base 3 "_law_text" ["_law_reader_here", "_law_many"] (spR K p_l_text)) (O_l_draw : Ok P w K mg base 2 "_law_draw" ["_law_reader_here", "_law_many"] (spR K p_l_draw)) : Ok P w K mg base 4 "_law_mark" ["_law_reader_here"] (spR K p_l_mark) := by
  obtain ⟨f, fd, F, g⟩ := F
  refine ⟨f, fd, fnR F sc_l_mark (fun n a R h => len_l_mark n a R h) (by decide) (ds := ds_l_mark) (fun cdv A outer s H E hr => ?_) sem_l_mark, g, F.kp, F.binds fun _ _ _ _ _ _ us hl => match us, hl with | [_], _ => rfl⟩
  exact (dss_one (ds_ret (de_tup (da_cons (de_str e_mark) (da_cons (dcallR O_l_text (by exact hr.mono (by decide)) (by rfl) (da_cons (dv 0) (da_cons (de_op op_add (lift_iOp fun i j => i + j) de_int (dcallR O_l_draw (by exact hr.mono (by decide)) (by rfl) (da_cons (dv 0) (da_cons de_int da_nil)))) da_nil))) da_nil)))))

theorem ok_l_shown (T : Txt K mg) (F : Df K mg "_law_shown" s_l_shown) (O_l_draw : Ok P w K mg base 2 "_law_draw" ["_law_reader_here", "_law_many"] (spR K p_l_draw)) (O_l_text : Ok P w K mg base 3 "_law_text" ["_law_reader_here", "_law_many"] (spR K p_l_text)) : Ok P w K mg base 4 "_law_shown" ["_law_reader_here"] (spR K p_l_shown) := by
  obtain ⟨f, fd, F, g⟩ := F
  refine ⟨f, fd, fnR F sc_l_shown (fun n a R h => len_l_shown n a R h) (by decide) (ds := ds_l_shown) (fun cdv A outer s H E hr => ?_) sem_l_shown, g, F.kp, F.binds fun _ _ _ _ _ _ us hl => match us, hl with | [_], _ => rfl⟩
  exact (dss_cons (ds_set 1 (by decide) sc_l_shown.nd (de_ix ix_seq lift_ix (de_tup (da_cons (de_str e_ahead) (da_cons (de_str e_behind) (da_cons (de_str e_behind) (da_cons (de_str e_none) da_nil))))) (dcallR O_l_draw (by exact hr.mono (by decide)) (by rfl) (da_cons (dv 0) (da_cons de_int da_nil)))))
    (dss_cons (ds_set 2 (by decide) sc_l_shown.nd (de_cmp op_eq lift_eq (dcallR O_l_draw (by exact hr.mono (by decide)) (by rfl) (da_cons (dv 0) (da_cons de_int da_nil))) de_int (nomark _)))
    (dss_cons (ds_setLc (own := [("_law_k", 5)]) (i := 3) (by decide) rfl sc_l_shown.nd rfl rfl (sw_true rfl rfl rfl (by decide +kernel)) (ic_rng (by rfl) T.m_range de_int) (blkOk_by (own := [("_law_k", 5)]) (N := N_l_shown) (sc := defScope s_l_shown) (by decide +kernel)) (fun _ _ _ _ _ => (dg_name 5 (by decide) sc_l_shown.nd)) (fun _ _ _ _ _ => dts_nil) (fun _ _ _ _ _ => (dcallR O_l_text (by exact hr.mono (by decide)) (by rfl) (da_cons (dv 0) (da_cons (dcallR O_l_draw (by exact hr.mono (by decide)) (by rfl) (da_cons (dv 0) (da_cons de_int da_nil))) da_nil)))))
    (dss_cons (ds_set 4 (by decide) sc_l_shown.nd (dcallR O_l_text (by exact hr.mono (by decide)) (by rfl) (da_cons (dv 0) (da_cons (dcallR O_l_draw (by exact hr.mono (by decide)) (by rfl) (da_cons (dv 0) (da_cons de_int da_nil))) da_nil))))
    (dss_one (ds_ret (de_tup (da_cons (dv 1) (da_cons (dv 2) (da_cons (dv 4) (da_cons (de_ix ix_seq lift_ix (dv 3) de_int) (da_cons (de_ix ix_seq lift_ix (dv 3) de_int) (da_cons (de_op op_add (lift_iOp fun i j => i + j) de_int (dcallR O_l_draw (by exact hr.mono (by decide)) (by rfl) (da_cons (dv 0) (da_cons de_int da_nil)))) (da_cons (de_ix ix_seq lift_ix (dv 3) de_int) da_nil))))))))))))))
end
end Ib
set_option Elab.async false
set_option linter.all false
set_option autoImplicit false
set_option maxRecDepth 100000
set_option maxHeartbeats 4000000
/-! IbM13: books drawn. -/
namespace Ib
open PySem PySem.Spec PyProof.Rows L2 TL PySem.W
variable [Tabl]
theorem sp1_word : ∀ {w : Cs}, (∀ c ∈ w, c ≠ 32) → sp1 w = [w]
  | [], _ => rfl
  | c :: r, h => by
    have ih := sp1_word (w := r) fun d hd => h d (by simp [hd])
    have hc : c ≠ 32 := h c (by simp)
    simp only [sp1, if_neg hc, ih]
theorem sp1_app : ∀ (l w : Cs), (∀ c ∈ w, c ≠ 32) → sp1 (l ++ 32 :: w) = sp1 l ++ [w]
  | [], w, h => by
    show sp1 (32 :: w) = _
    simp only [sp1, if_true, sp1_word h]
    rfl
  | c :: r, w, h => by
    have ih := sp1_app r w h
    obtain ⟨w0, ws, e⟩ := sp1_ne r
    show sp1 (c :: (r ++ 32 :: w)) = _
    by_cases hc : c = 32
    · simp only [sp1, if_pos hc, ih]; rfl
    · simp only [sp1, if_neg hc, ih, e]; rfl
theorem small_no_blank : ∀ c ∈ SMALL, c ≠ 32 := by decide
theorem tit_app {l w : Cs} (h : isTitL l = true) (hw : w ≠ []) (hs : ∀ c ∈ w, c ∈ SMALL) : isTitL (l ++ 32 :: w) = true := by
  unfold isTitL at h ⊢
  rw [sp1_app l w fun c hc => small_no_blank c (hs c hc)]
  obtain ⟨w0, ws, e⟩ := sp1_ne l
  rw [e] at h ⊢
  simp only [Bool.and_eq_true, List.cons_append, List.all_append, List.all_cons, List.all_nil, Bool.and_true] at h ⊢
  refine ⟨h.1, h.2, ?_, allOf_iff.mpr hs⟩
  simpa using hw
theorem caps_no_blank : ∀ c ∈ CAPS, c ≠ 32 := by decide
theorem tit_fam {l : Cs} (h : isFamL l = true) : isTitL l = true := by
  have nb : ∀ c ∈ l, c ≠ 32 := by
    obtain ⟨c, r, rfl, h1, h2, _⟩ := low_fam h
    intro d hd
    rcases List.mem_cons.mp hd with rfl | hd
    · exact caps_no_blank _ h1
    · exact small_no_blank d (h2 d hd)
  unfold isTitL
  rw [sp1_word nb]
  simp [h]
theorem giv_up {l : Cs} (h1 : l ≠ []) (h : ∀ c ∈ l, c ∈ SMALL) : isGivL (upC l) = true ∧ (upC l).length = l.length := by
  obtain ⟨e, hc⟩ := up_small h
  refine ⟨?_, e⟩
  unfold isGivL
  rw [Bool.and_eq_true]
  refine ⟨?_, allOf_iff.mpr hc⟩
  have : upC l ≠ [] := fun z => by
    rw [z] at e
    cases l with
    | nil => exact h1 rfl
    | cons => simp at e
  simpa using this
theorem fAppend_ok {xs : List D} {y : D} (h : xs.length < sizeLine) : fAppend xs [.d y] = some (.non, xs ++ [y]) := by simp [h]
theorem sCat_ok {δ : DEnv} {P : U → DEnv → Prop} {x y : Cs} (h : x.length + y.length ≤ 1000) (q : P (.d (.str (x ++ y))) δ) : p2 sCat (.d (.str x)) (.d (.str y)) δ P := by
  simp only [p2, sCat, if_pos (thou h)]
  exact q
theorem tupLa {δ : DEnv} {P : U → DEnv → Prop} {i : Nat} {xs : List D} (e : δ[i]? = some (some (.lst xs))) (h : P (.d (.tup xs)) δ) : dCB (vOne fTuple) (dCons (dVar i) dNil) δ P := by
  simp only [dCB, dCons, dVar, e, dNil, vOne, fTuple, lstU]
  exact h
theorem dLista {δ : DEnv} {P : U → DEnv → Prop} {i : Nat} {xs : List D} (e : δ[i]? = some (some (.lst xs))) (h : P (.bor i) δ) : dVar i δ P := by
  simp only [dVar, e]
  exact h
def p_l_book : RSp := fun n a R => ∃ (m : Nat) (p v : Int), a = [.int (m : Nat), .int p, .int v] ∧ 1 ≤ m ∧ m ≤ 3 ∧ 400 ≤ n ∧ ∀ (b : Bk) n', b.Ok → Sm b.toD → b.title.length ≤ 100 → b.names.length = m → b.place.isSome = decide (p = 1) → b.volume.isSome = decide (v = 1) → n ≤ n' + 400 → R (.d b.toD) n'
@[simp] theorem e_l_book (n m : Nat) (p v : Int) (R : U → Nat → Prop) : p_l_book n [.int (m : Nat), .int p, .int v] R ↔ 1 ≤ m ∧ m ≤ 3 ∧ 400 ≤ n ∧ ∀ (b : Bk) n', b.Ok → Sm b.toD → b.title.length ≤ 100 → b.names.length = m → b.place.isSome = decide (p = 1) → b.volume.isSome = decide (v = 1) → n ≤ n' + 400 → R (.d b.toD) n' := by
  unfold p_l_book
  constructor
  · rintro ⟨m', p', v', e, h⟩
    simp only [List.cons.injEq, D.int.injEq, and_true] at e
    obtain ⟨e1, rfl, rfl⟩ := e
    rw [Int.ofNat.inj e1]
    exact h
  · exact fun h => ⟨m, p, v, rfl, h⟩
theorem len_l_book (n : Nat) (a : List D) (R : U → Nat → Prop) (h : p_l_book n a R) : a.length + 1 = 4 := by
  obtain ⟨m, p, v, rfl, _⟩ := h
  rfl
def ds_l_book : DS :=
    (sSeq (sSet (dLst dNil) 4)
    (sSeq (sFor (iR (dVar 1)) (gN 5) (sExpr (dML (mMut fAppend) (dVar 4) (dCons (dTup (dCons (dCallR p_l_family (dCons (dVar 0) dNil)) (dCons (dMS mUpper (dCallR p_l_small (dCons (dVar 0) (dCons (d2 vIx (dTup (dCons (dC (.int 1)) (dCons (dC (.int 1)) (dCons (dC (.int 2)) (dCons (dC (.int 3)) (dCons (dC (.int 8)) dNil)))))) (dCallR p_l_draw (dCons (dVar 0) (dCons (dC (.int 5)) dNil)))) dNil))) dNil) dNil))) dNil))))
    (sSeq (sSet (dCallR p_l_family (dCons (dVar 0) dNil)) 6)
    (sSeq (sFor (iR (dCallR p_l_draw (dCons (dVar 0) (dCons (dC (.int 3)) dNil)))) (gN 5) (sSet (d2 (p2 sCat) (d2 (p2 sCat) (dVar 6) (dC (.str k_x32))) (dCallR p_l_small (dCons (dVar 0) (dCons (d2 (p2 (iOp fun i j => i + j)) (dC (.int 1)) (dCallR p_l_draw (dCons (dVar 0) (dCons (dC (.int 7)) dNil)))) dNil)))) 6))
    (sSeq (sSet (d2 vIx (dTup (dCons (dC (.int 1000)) (dCons (dC (.int 2999)) (dCons (dC (.int 1999)) (dCons (dC (.int 2000)) (dCons (d2 (p2 (iOp fun i j => i + j)) (dC (.int 1000)) (dCallR p_l_draw (dCons (dVar 0) (dCons (dC (.int 2000)) dNil)))) dNil)))))) (dCallR p_l_draw (dCons (dVar 0) (dCons (dC (.int 5)) dNil)))) 7)
    (sSeq (sSet (d2 vIx (dTup (dCons (dC (.int 1)) (dCons (dC (.int 9)) (dCons (dC (.int 10)) (dCons (dC (.int 99)) (dCons (dC (.int 100)) (dCons (dC (.int 999)) (dCons (d2 (p2 (iOp fun i j => i + j)) (dC (.int 1)) (dCallR p_l_draw (dCons (dVar 0) (dCons (dC (.int 999)) dNil)))) dNil)))))))) (dCallR p_l_draw (dCons (dVar 0) (dCons (dC (.int 7)) dNil)))) 8)
    (sSeq (sSet (dIf (dB (d2 (p2 sEq) (dVar 2) (dC (.int 1)))) (dCallR p_l_family (dCons (dVar 0) dNil)) (dC .non)) 9)
    (sRet (dTup (dCons (dCB (vOne fTuple) (dCons (dVar 4) dNil)) (dCons (dVar 7) (dCons (dVar 6) (dCons (dVar 9) (dCons (dIf (dB (d2 (p2 sEq) (dVar 3) (dC (.int 1)))) (dVar 8) (dC .non)) dNil))))))))))))))
theorem sem_l_book (n : Nat) (ls : Addr) (a : List D) (R : U → Nat → Prop) (h : p_l_book n a R) : ds_l_book { nx := fun δ => ∃ n', δ[0]? = some (some (.rdr ls n')) ∧ R (.d .non) n', rt := fun w δ => ∃ n', δ[0]? = some (some (.rdr ls n')) ∧ (∃ y, w = .d y) ∧ R w n' } (slots N_l_book (.rdr ls n :: a.map U.d)) := by
  obtain ⟨m, p, v, rfl, m1, m3, h2, h⟩ := h
  simp only [ds_l_book, sSeq, sSet, sRet]
  refine ⟨by simp, ?_⟩
  unfold sFor
  -- the names
  refine ⟨by omega, by omega, fun i δ => ∃ (ns : List (Cs × Cs)) (n1 : Nat) (q : Option U), δ = [some (.rdr ls n1), some (.d (.int (m : Nat))), some (.d (.int p)), some (.d (.int v)), some (.lst (ns.map nmD)), q, none, none, none, none] ∧ ns.length = i ∧ i ≤ m ∧ n ≤ n1 + 40 * i ∧ ∀ x ∈ ns, (isFamL x.1 = true ∧ isGivL x.2 = true) ∧ x.1.length ≤ 8 ∧ x.2.length ≤ 8, ⟨[], n, none, rfl, rfl, Nat.zero_le _, by omega, fun _ z => nomatch z⟩, ?_, ?_⟩
  · rintro i x δ hx ⟨ns, n1, q, rfl, hl, hi, hn, hg⟩
    have hlt : i < m := by
      have := (List.getElem?_eq_some_iff.mp hx).1
      simpa [rngD] using this
    simp only [gN, sExpr, dML]
    refine dLista rfl ⟨rfl, dConsa (dTupa (dConsa (c0 rfl ((e_l_family _ _).mpr ⟨by omega, fun f n2 f1 f2 f3 => dConsa ?_⟩))))⟩
    simp only [dMS, d2]
    refine c1 rfl (dTupa ⟨mill (by decide), c1 rfl (contR_d (x := .int 5) rfl ((e_l_draw _ _ _).mpr ⟨by omega, by decide, by decide, fun r r0 r1 => ?_⟩))⟩)
    obtain ⟨c, e, hc⟩ := pick (l := [D.int 1, D.int 1, D.int 2, D.int 3, D.int 8]) r0 r1
    obtain ⟨k, rfl, hk1, hk⟩ : ∃ k : Nat, c = .int (k : Nat) ∧ 1 ≤ k ∧ k ≤ 8 := by
      simp only [List.mem_cons, List.not_mem_nil, or_false] at hc
      rcases hc with rfl | rfl | rfl | rfl | rfl
      · exact ⟨1, rfl, by omega, by omega⟩
      · exact ⟨1, rfl, by omega, by omega⟩
      · exact ⟨2, rfl, by omega, by omega⟩
      · exact ⟨3, rfl, by omega, by omega⟩
      · exact ⟨8, rfl, by omega, by omega⟩
    simp only [vIx, seqU, e]
    refine contR_d rfl ((e_l_small _ _ _).mpr ⟨by omega, by omega, fun g n3 g1 g2 g3 => ?_⟩)
    obtain ⟨gv, gl⟩ := giv_up (l := g) (fun z => by rw [z] at g1; simp at g1; omega) g2
    refine ⟨trivial, rfl, by omega, ?_⟩
    refine ⟨mill (by simp), ?_⟩
    have hz : (ns.map nmD).length < sizeLine := by rw [List.length_map, sizeLine_eq]; omega
    simp only [dNil, mMut, List.set_cons_zero, List.set_cons_succ, List.getElem?_cons_succ, List.getElem?_cons_zero]
    rw [fAppend_ok hz]
    refine ⟨ns ++ [(f, upC g)], n3, _, by rw [List.map_append]; rfl, by simp [hl], hlt, by omega, fun y hy => ?_⟩
    rcases List.mem_append.mp hy with hy | hy
    · exact hg y hy
    · rw [List.mem_singleton.mp hy]
      exact ⟨⟨f1, gv⟩, f2, by show (upC g).length ≤ 8; omega⟩
  · rintro δ ⟨ns, n1, q, rfl, hl, -, hn, hg⟩
    have hlen : (rngD (m : Int).toNat).length = m := by simp [rngD]
    rw [hlen] at hl hn
    simp only [sSeq, sSet]
    refine c0 (n := n1) rfl ((e_l_family _ _).mpr ⟨by omega, fun t n2 t1 t2 t3 => ?_⟩)
    refine c1 rfl (contR_d (x := .int 3) rfl ((e_l_draw _ _ _).mpr ⟨by omega, by decide, by decide, fun r r0 r1 => ?_⟩))
    obtain ⟨j, rfl⟩ : ∃ k : Nat, r = k := ⟨r.toNat, by omega⟩
    -- the title
    refine ⟨by omega, by omega, fun i δ => ∃ (t : Cs) (n3 : Nat) (q : Option U), δ = [some (.rdr ls n3), some (.d (.int (m : Nat))), some (.d (.int p)), some (.d (.int v)), some (.lst (ns.map nmD)), q, some (.d (.str t)), none, none, none] ∧ isTitL t = true ∧ t.length ≤ 8 + 10 * i ∧ n2 ≤ 1 + n3 + 10 * i, ⟨t, n2 - 1, q, rfl, tit_fam t1, by omega, by omega⟩, ?_, ?_⟩
    · rintro i x δ hx ⟨t, n3, q, rfl, tt, tl, hn3⟩
      have hlt : i < j := by
        have := (List.getElem?_eq_some_iff.mp hx).1
        simpa [rngD] using this
      simp only [gN, d2]
      have l1 : t.length + k_x32.length ≤ 1000 := by show t.length + 1 ≤ 1000; omega
      refine dVara rfl (dCa (sCat_ok l1 (c1 rfl (opIa (dCa (c1 rfl (contR_d (x := .int 7) rfl ((e_l_draw _ _ _).mpr ⟨by omega, by decide, by decide, fun r r0 r1 => ?_⟩))))))))
      obtain ⟨k, rfl⟩ : ∃ k : Nat, r = k := ⟨r.toNat, by omega⟩
      simp only [p2, iOp]
      rw [show (1 + (k : Int)) = ((1 + k : Nat) : Int) by omega]
      refine contR_d rfl ((e_l_small _ _ _).mpr ⟨by omega, by omega, fun g n4 g1 g2 g3 => ?_⟩)
      have l2 : (t ++ k_x32).length + g.length ≤ 1000 := by rw [List.length_append]; show t.length + 1 + g.length ≤ 1000; omega
      simp only [sCat, if_pos (thou l2)]
      refine ⟨t ++ 32 :: g, n4, _, by rw [List.append_assoc]; rfl, tit_app tt (fun z => by rw [z] at g1; simp at g1; omega) g2, by simp; omega, by omega⟩
    · rintro δ ⟨t, n3, q, rfl, tt, tl, hn3⟩
      have hlen : (rngD (j : Int).toNat).length = j := by simp [rngD]
      rw [hlen] at tl hn3
      simp only [sSeq, sSet, d2]
      -- the year
      refine dTupa (dConsa (dCa (dConsa (dCa (dConsa (dCa (dConsa (dCa (dConsa (opIa (dCa (c1 (n := n3) rfl (contR_d (x := .int 2000) rfl ((e_l_draw _ _ _).mpr ⟨by omega, by decide, by decide, fun r r0 r1 => ?_⟩))))))))))))))
      simp only [p2, iOp]
      refine ⟨mill (by simp), ?_⟩
      refine c1 rfl (contR_d (x := .int 5) rfl ((e_l_draw _ _ _).mpr ⟨by omega, by decide, by decide, fun r2 r20 r21 => ?_⟩))
      obtain ⟨c, e, hc⟩ := pick (l := [D.int 1000, D.int 2999, D.int 1999, D.int 2000, D.int (1000 + r)]) r20 r21
      obtain ⟨y, rfl, y1, y2⟩ : ∃ y : Int, c = .int y ∧ 1000 ≤ y ∧ y ≤ 2999 := by
        simp only [List.mem_cons, List.not_mem_nil, or_false] at hc
        rcases hc with rfl | rfl | rfl | rfl | rfl <;> exact ⟨_, rfl, by omega, by omega⟩
      simp only [vIx, seqU, e]
      -- the volume
      refine dTupa (dConsa (dCa (dConsa (dCa (dConsa (dCa (dConsa (dCa (dConsa (dCa (dConsa (dCa (dConsa (opIa (dCa (c1 rfl (contR_d (x := .int 999) rfl ((e_l_draw _ _ _).mpr ⟨by omega, by decide, by decide, fun r3 r30 r31 => ?_⟩))))))))))))))))))
      simp only [p2, iOp]
      refine ⟨mill (by simp), ?_⟩
      refine c1 rfl (contR_d (x := .int 7) rfl ((e_l_draw _ _ _).mpr ⟨by omega, by decide, by decide, fun r4 r40 r41 => ?_⟩))
      obtain ⟨c2, e2, hc2⟩ := pick (l := [D.int 1, D.int 9, D.int 10, D.int 99, D.int 100, D.int 999, D.int (1 + r3)]) r40 r41
      obtain ⟨vo, rfl, vo1, vo2⟩ : ∃ y : Int, c2 = .int y ∧ 1 ≤ y ∧ y ≤ 999 := by
        simp only [List.mem_cons, List.not_mem_nil, or_false] at hc2
        rcases hc2 with rfl | rfl | rfl | rfl | rfl | rfl | rfl <;> exact ⟨_, rfl, by omega, by omega⟩
      simp only [vIx, seqU, e2]
      have fin : ∀ (pl : Option Cs) (n5 : Nat) (q : Option U), (∀ z, pl = some z → isFamL z = true ∧ z.length ≤ 8) → pl.isSome = decide (p = 1) → n ≤ n5 + 400 →
          sRet (dTup (dCons (dCB (vOne fTuple) (dCons (dVar 4) dNil)) (dCons (dVar 7) (dCons (dVar 6) (dCons (dVar 9) (dCons (dIf (dB (d2 (p2 sEq) (dVar 3) (dC (D.int 1)))) (dVar 8) (dC D.non)) dNil))))))
          { nx := fun δ => ∃ n', δ[0]? = some (some (U.rdr ls n')) ∧ R (U.d D.non) n', rt := fun w δ => ∃ n', δ[0]? = some (some (U.rdr ls n')) ∧ (∃ y, w = U.d y) ∧ R w n' }
          [some (.rdr ls n5), some (.d (.int (m : Nat))), some (.d (.int p)), some (.d (.int v)), some (.lst (ns.map nmD)), q, some (.d (.str t)), some (.d (.int y)), some (.d (.int vo)), some (.d (opS pl))] := by
        intro pl n5 q hp hs hb
        have mk : ∀ V : Option Int, (∀ z, V = some z → z = vo) → V.isSome = decide (v = 1) → R (.d (Bk.mk ns y t pl V).toD) n5 := fun V hV hVs => by
          have ok : (Bk.mk ns y t pl V).Ok := ⟨by show 1 ≤ ns.length; omega, by show ns.length ≤ 3; omega, fun x hx => (hg x hx).1, ⟨y1, y2⟩, tt, fun z e => (hp z e).1, fun z e => by rw [hV z e]; exact ⟨vo1, vo2⟩⟩
          refine h _ n5 ok ?_ (by show t.length ≤ 100; omega) hl hs hVs hb
          have e1 : Sm (opS pl) := by
            cases pl with
            | none => simp [opS]
            | some z => have := (hp z rfl).2; simp [opS]; omega
          have e2 : Sm (opI V) := by cases V <;> simp [opI]
          simp only [Bk.toD, Sm_tup, Sms_cons, Sms_nil, Sm_int, Sm_str, e1, e2, List.length_cons, List.length_nil, List.length_map, and_true, true_and]
          refine ⟨by omega, ⟨by omega, Sms_of fun x hx => ?_⟩, by omega⟩
          obtain ⟨z, hz, rfl⟩ := List.mem_map.mp hx
          have := hg z hz
          simp [nmD]
          omega
        simp only [sRet]
        refine dTupa (dConsa (tupLa rfl ?_))
        refine dConsa (dVara rfl (dConsa (dVara rfl (dConsa (dVara rfl (dConsa (dIfa ?_)))))))
        simp only [dB, d2]
        refine dVara rfl (dCa ?_)
        simp only [p2, sEq]
        refine ifB_of (fun e => ?_) fun e => ?_
        · have := mk (some vo) (fun z e => by cases e; rfl) (by rw [e]; rfl)
          exact dVara rfl ⟨mill (by simp), n5, rfl, ⟨_, rfl⟩, this⟩
        · have := mk none (fun z e => by cases e) (by rw [e]; rfl)
          exact dCa ⟨mill (by simp), n5, rfl, ⟨_, rfl⟩, this⟩
      refine dIfa ?_
      simp only [dB, d2]
      refine dVara rfl (dCa ?_)
      simp only [p2, sEq]
      refine ifB_of (fun e => ?_) fun e => ?_
      · refine c0 (n := n3 - 1 - 1 - 1 - 1) rfl ((e_l_family _ _).mpr ⟨by omega, fun z n6 z1 z2 z3 => ?_⟩)
        exact fin (some z) n6 _ (fun z' e => by cases e; exact ⟨z1, z2⟩) (by rw [e]; rfl) (by omega)
      · exact dCa (fin none _ _ (fun z' e => by cases e) (by rw [e]; rfl) (by omega))
section
variable {P : Program} {w : World} {K : PySem.W.Frag} {mg : Str → Option Value} {base : Heap}
theorem ok_l_book (T : Txt K mg) (F : Df K mg "_law_book" s_l_book) (O_l_small : Ok P w K mg base 3 "_law_small" ["_law_reader_here", "_law_many"] (spR K p_l_small)) (O_l_draw : Ok P w K mg base 2 "_law_draw" ["_law_reader_here", "_law_many"] (spR K p_l_draw)) (O_l_family : Ok P w K mg base 4 "_law_family" ["_law_reader_here"] (spR K p_l_family)) : Ok P w K mg base 5 "_law_book" ["_law_reader_here", "_law_many", "_law_placed", "_law_volumed"] (spR K p_l_book) := by
  obtain ⟨f, fd, F, g⟩ := F
  refine ⟨f, fd, fnR F sc_l_book (fun n a R h => len_l_book n a R h) (by decide) (ds := ds_l_book) (fun cdv A outer s H E hr => ?_) sem_l_book, g, F.kp, F.binds fun _ _ _ _ _ _ us hl => match us, hl with | [_, _, _, _], _ => rfl⟩
  exact (dss_cons (ds_set 4 (by decide) sc_l_book.nd (de_lst da_nil))
    (dss_cons (ds_for PassesOwn.never rfl (di_rng (by rfl) T.m_range (dv 1)) (dg_name 5 (by decide) sc_l_book.nd) (dss_one (ds_expr (de_ml PySem.F.slot_list_append PySem.F.type_list_append mt_append lift_append (dv 4) (da_cons (de_tup (da_cons (dcallR O_l_family (by exact hr.mono (by decide)) (by rfl) (da_cons (dv 0) da_nil)) (da_cons (de_ms0 PySem.F.plainAttrs_str PySem.F.slot_str_upper PySem.F.type_str_upper mt_upper lift_upper (dcallR O_l_small (by exact hr.mono (by decide)) (by rfl) (da_cons (dv 0) (da_cons (de_ix ix_seq lift_ix (de_tup (da_cons de_int (da_cons de_int (da_cons de_int (da_cons de_int (da_cons de_int da_nil)))))) (dcallR O_l_draw (by exact hr.mono (by decide)) (by rfl) (da_cons (dv 0) (da_cons de_int da_nil)))) da_nil)))) da_nil))) da_nil)))))
    (dss_cons (ds_set 6 (by decide) sc_l_book.nd (dcallR O_l_family (by exact hr.mono (by decide)) (by rfl) (da_cons (dv 0) da_nil)))
    (dss_cons (ds_for PassesOwn.never rfl (di_rng (by rfl) T.m_range (dcallR O_l_draw (by exact hr.mono (by decide)) (by rfl) (da_cons (dv 0) (da_cons de_int da_nil)))) (dg_name 5 (by decide) sc_l_book.nd) (dss_one (ds_set 6 (by decide) sc_l_book.nd (de_op op_add_str lift_sCat (de_op op_add_str lift_sCat (dv 6) (de_str e_x32)) (dcallR O_l_small (by exact hr.mono (by decide)) (by rfl) (da_cons (dv 0) (da_cons (de_op op_add (lift_iOp fun i j => i + j) de_int (dcallR O_l_draw (by exact hr.mono (by decide)) (by rfl) (da_cons (dv 0) (da_cons de_int da_nil)))) da_nil)))))))
    (dss_cons (ds_set 7 (by decide) sc_l_book.nd (de_ix ix_seq lift_ix (de_tup (da_cons de_int (da_cons de_int (da_cons de_int (da_cons de_int (da_cons (de_op op_add (lift_iOp fun i j => i + j) de_int (dcallR O_l_draw (by exact hr.mono (by decide)) (by rfl) (da_cons (dv 0) (da_cons de_int da_nil)))) da_nil)))))) (dcallR O_l_draw (by exact hr.mono (by decide)) (by rfl) (da_cons (dv 0) (da_cons de_int da_nil)))))
    (dss_cons (ds_set 8 (by decide) sc_l_book.nd (de_ix ix_seq lift_ix (de_tup (da_cons de_int (da_cons de_int (da_cons de_int (da_cons de_int (da_cons de_int (da_cons de_int (da_cons (de_op op_add (lift_iOp fun i j => i + j) de_int (dcallR O_l_draw (by exact hr.mono (by decide)) (by rfl) (da_cons (dv 0) (da_cons de_int da_nil)))) da_nil)))))))) (dcallR O_l_draw (by exact hr.mono (by decide)) (by rfl) (da_cons (dv 0) (da_cons de_int da_nil)))))
    (dss_cons (ds_set 9 (by decide) sc_l_book.nd (de_ifExp (dt_cmp op_eq lift_eq (dv 2) de_int (nomark _)) (dcallR O_l_family (by exact hr.mono (by decide)) (by rfl) (da_cons (dv 0) da_nil)) de_non))
    (dss_one (ds_ret (de_tup (da_cons (de_callTy call_tupleF lift_tuple (by rfl) T.m_tuple (by decide +kernel) (da_cons (dv 4) da_nil)) (da_cons (dv 7) (da_cons (dv 6) (da_cons (dv 9) (da_cons (de_ifExp (dt_cmp op_eq lift_eq (dv 3) de_int (nomark _)) (dv 8) de_non) da_nil)))))))))))))))
end
end Ib
set_option Elab.async false
set_option linter.all false
set_option autoImplicit false
set_option maxRecDepth 100000
set_option maxHeartbeats 4000000
/-! IbM14: letters drawn. -/
namespace Ib
open PySem PySem.Spec PyProof.Rows L2 TL PySem.W
variable [Tabl]
def p_l_letters : RSp := fun n a R => a = [] ∧ 100 ≤ n ∧ ∀ (ts : List Cs) n', LetsOk ts → n ≤ n' + 100 → R (.d (.tup (ts.map D.str))) n'
@[simp] theorem e_l_letters (n : Nat) (R : U → Nat → Prop) : p_l_letters n [] R ↔ 100 ≤ n ∧ ∀ (ts : List Cs) n', LetsOk ts → n ≤ n' + 100 → R (.d (.tup (ts.map D.str))) n' := by simp [p_l_letters]
theorem len_l_letters (n : Nat) (a : List D) (R : U → Nat → Prop) (h : p_l_letters n a R) : a.length + 1 = 1 := by
  obtain ⟨rfl, _⟩ := h
  rfl
def ds_l_letters : DS :=
    (sSeq (sSet (dC (.str k_abcdefghijklmnopqrst)) 1)
    (sSeq (sSet (dCB (vOne fListS) (dCons (dVar 1) dNil)) 2)
    (sSeq (sFor (iR (dCallR p_l_draw (dCons (dVar 0) (dCons (dC (.int 15)) dNil)))) (gN 3) (sSeq (sSet (d2 (p2 sCat) (d2 vIx (dVar 1) (dCallR p_l_draw (dCons (dVar 0) (dCons (dC (.int 26)) dNil)))) (d2 vIx (dVar 1) (dCallR p_l_draw (dCons (dVar 0) (dCons (dC (.int 26)) dNil))))) 6)
    (sIf (dB (d2 (vInS true) (dVar 6) (dVar 2))) (sExpr (dML (mMut fAppend) (dVar 2) (dCons (dVar 6) dNil))) sNext)))
    (sSeq (sSet (dLst dNil) 4)
    (sSeq (sFor (iR (dCB (vOne fLen) (dCons (dVar 2) dNil))) (gN 5) (sExpr (dML (mMut fAppend) (dVar 4) (dCons (dML (mMut fPopAt) (dVar 2) (dCons (dCallR p_l_draw (dCons (dVar 0) (dCons (dCB (vOne fLen) (dCons (dVar 2) dNil)) dNil))) dNil)) dNil))))
    (sRet (dCB (vOne fTuple) (dCons (dVar 4) dNil))))))))
theorem lenLa {δ : DEnv} {P : U → DEnv → Prop} {i : Nat} {xs : List D} (e : δ[i]? = some (some (.lst xs))) (h : P (.d (.int (xs.length : Nat))) δ) : dCB (vOne fLen) (dCons (dVar i) dNil) δ P := by
  simp only [dCB, dCons, dVar, e, dNil, vOne, fLen, seqU]
  exact h
theorem fPopAt_ok {xs : List D} {k : Nat} {y : D} (h : xs[k]? = some y) (hz : k < 1000) : fPopAt xs [.d (.int (k : Nat))] = some (y, xs.eraseIdx k) := by
  simp only [fPopAt]
  rw [if_pos ⟨by omega, by omega⟩]
  simp only [Int.toNat_natCast, h]
theorem mutA {f : List D → List U → Option (D × List D)} {ws : List U} {δ : DEnv} {R : U → DEnv → Prop} {i : Nat} {xs ys : List D} {y : D} (e : δ[i]? = some (some (.lst xs))) (h : f xs ws = some (y, ys)) (q : R (.d y) (δ.set i (some (.lst ys)))) : mMut f (.bor i) ws δ R := by
  simp only [mMut, e, h]
  exact q
/-- xs.pop(_law_draw(reader, len(xs))) -/
theorem popDraw {δ : DEnv} {P : U → DEnv → Prop} {ls : Addr} {n i : Nat} {xs : List D} (h0 : δ[0]? = some (some (.rdr ls n))) (hi : δ[i]? = some (some (.lst xs))) (hi0 : 0 ≠ i) (hn : 0 < n) (hx : 1 ≤ xs.length) (hl : xs.length < 1000)
    (h : ∀ k y, xs[k]? = some y → P (.d y) ((δ.set 0 (some (.rdr ls (n - 1)))).set i (some (.lst (xs.eraseIdx k))))) :
    dML (mMut fPopAt) (dVar i) (dCons (dCallR p_l_draw (dCons (dVar 0) (dCons (dCB (vOne fLen) (dCons (dVar i) dNil)) dNil))) dNil) δ P := by
  simp only [dML]
  refine dLista hi ⟨by simp [lstU, hi], dConsa (c1 h0 (lenLa hi (contR_d h0 ((e_l_draw _ _ _).mpr ⟨hn, by omega, by omega, fun r r0 r1 => ?_⟩))))⟩
  obtain ⟨k, rfl⟩ : ∃ k : Nat, r = k := ⟨r.toNat, by omega⟩
  have hk : k < xs.length := by omega
  have e1 : xs[k]? = some xs[k] := List.getElem?_eq_getElem hk
  have hi2 : (δ.set 0 (some (.rdr ls (n - 1))))[i]? = some (some (.lst xs)) := by rw [List.getElem?_set_ne hi0]; exact hi
  have hq := h k _ e1
  generalize δ.set 0 (some (.rdr ls (n - 1))) = δ1 at hi2 hq
  have hp := fPopAt_ok (y := xs[k]) e1 (by omega)
  simp only [dNil]
  generalize hw : [U.d (.int (k : Nat))] = ws at hp ⊢
  generalize hf : fPopAt = ff at hp ⊢
  exact mutA hi2 hp hq
theorem appLa {δ : DEnv} {R : U → DEnv → Prop} {i : Nat} {xs : List D} {y : D} (e : δ[i]? = some (some (.lst xs))) (hz : xs.length < sizeLine) (q : R (.d .non) (δ.set i (some (.lst (xs ++ [y]))))) : dNil δ fun ws δ2 => mMut fAppend (.bor i) (.d y :: ws) δ2 R := by
  simp only [dNil]
  exact mutA (f := fAppend) (ws := [.d y]) e (fAppend_ok hz) q
theorem map_erase {α β : Type} (f : α → β) : ∀ (l : List α) (k : Nat), (l.map f).eraseIdx k = (l.eraseIdx k).map f
  | [], k => by simp
  | x :: r, 0 => by simp
  | x :: r, k + 1 => by simp [map_erase f r k]
theorem erase_perm {α : Type} : ∀ {l : List α} {k : Nat} {y : α}, l[k]? = some y → (y :: l.eraseIdx k).Perm l
  | [], k, y, h => by simp at h
  | x :: r, 0, y, h => by
    simp at h
    subst h
    exact .refl _
  | x :: r, k + 1, y, h => by
    simp only [List.getElem?_cons_succ] at h
    simp only [List.eraseIdx_cons_succ]
    exact (List.Perm.swap x y _).trans ((erase_perm h).cons x)
theorem two_let {c d : Nat} (hc : c ∈ SMALL) (hd : d ∈ SMALL) : isLetL [c, d] = true := by
  simp only [isLetL, Bool.and_eq_true]
  exact ⟨⟨rfl, rfl⟩, allOf_iff.mpr fun x hx => by
    rcases List.mem_cons.mp hx with rfl | hx
    · exact hc
    · rw [List.mem_singleton.mp hx]; exact hd⟩
theorem one_let {c : Nat} (hc : c ∈ SMALL) : isLetL [c] = true := by
  simp only [isLetL, Bool.and_eq_true]
  exact ⟨⟨rfl, rfl⟩, allOf_iff.mpr fun x hx => by rw [List.mem_singleton.mp hx]; exact hc⟩
theorem small_nd : SMALL.Nodup := by decide
theorem sem_l_letters (n : Nat) (ls : Addr) (a : List D) (R : U → Nat → Prop) (h : p_l_letters n a R) : ds_l_letters { nx := fun δ => ∃ n', δ[0]? = some (some (.rdr ls n')) ∧ R (.d .non) n', rt := fun w δ => ∃ n', δ[0]? = some (some (.rdr ls n')) ∧ (∃ y, w = .d y) ∧ R w n' } (slots N_l_letters (.rdr ls n :: a.map U.d)) := by
  obtain ⟨rfl, h2, h⟩ := h
  simp only [ds_l_letters, sSeq, sSet, sRet]
  refine dCa ?_
  dsimp only
  refine dConsa (dVara rfl ⟨mill (by decide), ?_⟩)
  dsimp only
  unfold sFor
  refine c1 (n := n) rfl (contR_d (x := .int 15) rfl ((e_l_draw _ _ _).mpr ⟨by omega, by decide, by decide, fun r r0 r1 => ?_⟩))
  obtain ⟨j, rfl⟩ : ∃ k : Nat, r = k := ⟨r.toNat, by omega⟩
  refine ⟨by omega, by omega, fun i δ => ∃ (ts : List Cs) (n1 : Nat) (q q2 : Option U), δ = [some (.rdr ls n1), some (.d (.str SMALL)), some (.lst (ts.map D.str)), q, none, none, q2] ∧ ts.length ≤ 26 + i ∧ ts.Nodup ∧ (∀ t ∈ ts, isLetL t = true) ∧ (∀ c ∈ SMALL, [c] ∈ ts) ∧ n ≤ n1 + 1 + 2 * i, ⟨SMALL.map fun c => [c], n - 1, none, none, by simp only [List.map_map]; rfl, by decide, ?_, ?_, ?_, by omega⟩, ?_, ?_⟩
  · unfold List.Nodup
    rw [List.pairwise_map]
    exact small_nd.imp fun h e => h (by simpa using e)
  · intro t ht
    obtain ⟨c, hc, rfl⟩ := List.mem_map.mp ht
    exact one_let hc
  · exact fun c hc => List.mem_map.mpr ⟨c, hc, rfl⟩
  · rintro i x δ hx ⟨ts, n1, q, q2, rfl, hl, nd, hlet, hall, hn⟩
    have hlt : i < j := by
      have := (List.getElem?_eq_some_iff.mp hx).1
      simpa [rngD] using this
    simp only [gN, sSeq, sSet, d2]
    refine dVara rfl (c1 rfl (contR_d (x := .int 26) rfl ((e_l_draw _ _ _).mpr ⟨by omega, by decide, by decide, fun r r0 r1 => ?_⟩)))
    obtain ⟨c, e, hc⟩ := pick (l := SMALL) r0 (by exact r1)
    simp only [vIx, e]
    refine ⟨mill (by decide), dVara rfl (c1 rfl (contR_d (x := .int 26) rfl ((e_l_draw _ _ _).mpr ⟨by omega, by decide, by decide, fun r2 r20 r21 => ?_⟩)))⟩
    obtain ⟨d, e2, hd⟩ := pick (l := SMALL) r20 (by exact r21)
    simp only [vIx, e2]
    refine ⟨mill (by decide), sCat_ok (by simp) ?_⟩
    dsimp only [sIf, dB, d2]
    refine dVara rfl (dLista rfl ?_)
    simp only [vInS, seqU, List.set_cons_zero, List.set_cons_succ, List.getElem?_cons_succ, List.getElem?_cons_zero, Option.bind_some, strsOf_map, if_true]
    refine ifB_of (fun hb => ?_) fun hb => ?_
    · have hn' : [c] ++ [d] ∉ ts := by simpa using hb
      simp only [sExpr, dML]
      refine dLista rfl ⟨rfl, dConsa (dVara rfl ?_)⟩
      have hz : (ts.map D.str).length < sizeLine := by rw [List.length_map, sizeLine_eq]; omega
      simp only [dNil, mMut, List.set_cons_zero, List.set_cons_succ, List.getElem?_cons_succ, List.getElem?_cons_zero]
      rw [fAppend_ok hz]
      refine ⟨ts ++ [[c, d]], n1 - 1 - 1, _, _, by rw [List.map_append]; rfl, by simp; omega, ?_, fun t ht => ?_, fun c hc => List.mem_append.mpr (.inl (hall c hc)), by omega⟩
      · rw [List.nodup_append]
        exact ⟨nd, by simp, fun x hx y hy e => by rw [List.mem_singleton.mp hy] at e; rw [e] at hx; exact hn' hx⟩
      · rcases List.mem_append.mp ht with ht | ht
        · exact hlet t ht
        · rw [List.mem_singleton.mp ht]; exact two_let hc hd
    · exact ⟨ts, n1 - 1 - 1, _, _, rfl, by omega, nd, hlet, hall, by omega⟩
  · rintro δ ⟨ts, n1, q, q2, rfl, hl, nd, hlet, hall, hn⟩
    have hlen : (rngD (j : Int).toNat).length = j := by simp [rngD]
    rw [hlen] at hl hn
    simp only [sSeq, sSet]
    refine ⟨by simp, ?_⟩
    dsimp only
    have hz : ts.length ≤ sizeLine := thou (by omega)
    refine lenLa rfl ?_
    rw [List.length_map]
    refine ⟨by omega, by omega, fun i δ => ∃ (l f : List Cs) (n2 : Nat) (q5 : Option U), δ = [some (.rdr ls n2), some (.d (.str SMALL)), some (.lst (l.map D.str)), q, some (.lst (f.map D.str)), q5, q2] ∧ f.length = i ∧ (l ++ f).Perm ts ∧ n1 ≤ n2 + i, ⟨ts, [], n1, none, rfl, rfl, by simp, by omega⟩, ?_, ?_⟩
    · rintro i x δ hx ⟨l, f, n2, q5, rfl, hf, pm, hn2⟩
      have hlt : i < ts.length := by
        have := (List.getElem?_eq_some_iff.mp hx).1
        simpa [rngD] using this
      have hll : l.length + i = ts.length := by
        have := pm.length_eq
        rw [List.length_append] at this
        omega
      have hzf : (f.map D.str).length < sizeLine := by rw [List.length_map, sizeLine_eq]; omega
      simp only [gN, sExpr]
      rw [show dML (mMut fAppend) = dML (mMut fAppend) from rfl]
      unfold dML
      refine dLista rfl ⟨rfl, dConsa ?_⟩
      refine popDraw (n := n2) (xs := l.map D.str) rfl rfl (by decide) (by omega) (by rw [List.length_map]; omega) (by rw [List.length_map]; omega) fun k y hy => ?_
      rw [List.getElem?_map] at hy
      cases e1 : l[k]? with
      | none => rw [e1] at hy; cases hy
      | some z =>
        rw [e1] at hy
        cases hy
        have e3 : (l.map D.str).eraseIdx k = (l.eraseIdx k).map D.str := map_erase _ _ _
        refine appLa (xs := f.map D.str) rfl hzf ?_
        refine ⟨l.eraseIdx k, f ++ [z], n2 - 1, some (.d x), ?_, by simp [hf], ?_, by omega⟩
        · rw [e3, List.map_append]; rfl
        · refine List.Perm.trans ?_ pm
          have p1 := erase_perm e1
          refine (List.perm_append_comm).trans ?_
          refine List.Perm.trans ?_ (List.perm_append_comm (l₁ := f) (l₂ := l))
          rw [List.append_assoc]
          exact p1.append_left f
    · rintro δ ⟨l, f, n2, q5, rfl, hf, pm, hn2⟩
      have hlen2 : (rngD (ts.length : Int).toNat).length = ts.length := by simp [rngD]
      rw [hlen2] at hf hn2
      have l0 : l = [] := by
        have := pm.length_eq
        rw [List.length_append] at this
        exact List.length_eq_zero_iff.mp (by omega)
      subst l0
      rw [List.nil_append] at pm
      simp only [sRet]
      refine tupLa rfl ⟨n2, rfl, ⟨_, rfl⟩, h f n2 ⟨?_, fun t ht => hlet t (pm.mem_iff.mp ht), pm.nodup_iff.mpr nd, fun c hc => pm.mem_iff.mpr (hall c hc)⟩ (by omega)⟩
      omega
section
variable {P : Program} {w : World} {K : PySem.W.Frag} {mg : Str → Option Value} {base : Heap}
theorem ok_l_letters (T : Txt K mg) (F : Df K mg "_law_letters" s_l_letters) (O_l_draw : Ok P w K mg base 2 "_law_draw" ["_law_reader_here", "_law_many"] (spR K p_l_draw)) : Ok P w K mg base 3 "_law_letters" ["_law_reader_here"] (spR K p_l_letters) := by
  obtain ⟨f, fd, F, g⟩ := F
  refine ⟨f, fd, fnR F sc_l_letters (fun n a R h => len_l_letters n a R h) (by decide) (ds := ds_l_letters) (fun cdv A outer s H E hr => ?_) sem_l_letters, g, F.kp, F.binds fun _ _ _ _ _ _ us hl => match us, hl with | [_], _ => rfl⟩
  exact (dss_cons (ds_set 1 (by decide) sc_l_letters.nd (de_str e_abcdefghijklmnopqrst))
    (dss_cons (ds_set 2 (by decide) sc_l_letters.nd (de_callTy (call_listS rfl) lift_listS (by rfl) T.m_list (by decide +kernel) (da_cons (dv 1) da_nil)))
    (dss_cons (ds_for PassesOwn.never rfl (di_rng (by rfl) T.m_range (dcallR O_l_draw (by exact hr.mono (by decide)) (by rfl) (da_cons (dv 0) (da_cons de_int da_nil)))) (dg_name 3 (by decide) sc_l_letters.nd) (dss_cons (ds_set 6 (by decide) sc_l_letters.nd (de_op op_add_str lift_sCat (de_ix ix_seq lift_ix (dv 1) (dcallR O_l_draw (by exact hr.mono (by decide)) (by rfl) (da_cons (dv 0) (da_cons de_int da_nil)))) (de_ix ix_seq lift_ix (dv 1) (dcallR O_l_draw (by exact hr.mono (by decide)) (by rfl) (da_cons (dv 0) (da_cons de_int da_nil))))))
    (dss_one (ds_if (dt_cmp op_notIn_seq lift_inS (dv 6) (dv 2) (by rfl)) (dss_one (ds_expr (de_ml PySem.F.slot_list_append PySem.F.type_list_append mt_append lift_append (dv 2) (da_cons (dv 6) da_nil)))) dss_nil))))
    (dss_cons (ds_set 4 (by decide) sc_l_letters.nd (de_lst da_nil))
    (dss_cons (ds_for PassesOwn.never rfl (di_rng (by rfl) T.m_range (de_callB call_len lift_len (by rfl) T.m_len (by decide +kernel) (da_cons (dv 2) da_nil))) (dg_name 5 (by decide) sc_l_letters.nd) (dss_one (ds_expr (de_ml PySem.F.slot_list_append PySem.F.type_list_append mt_append lift_append (dv 4) (da_cons (de_ml PySem.F.slot_list_pop PySem.F.type_list_pop mt_popAt lift_popAt (dv 2) (da_cons (dcallR O_l_draw (by exact hr.mono (by decide)) (by rfl) (da_cons (dv 0) (da_cons (de_callB call_len lift_len (by rfl) T.m_len (by decide +kernel) (da_cons (dv 2) da_nil)) da_nil))) da_nil)) da_nil)))))
    (dss_one (ds_ret (de_callTy call_tupleF lift_tuple (by rfl) T.m_tuple (by decide +kernel) (da_cons (dv 4) da_nil)))))))))
end
end Ib
set_option Elab.async false
set_option linter.all false
set_option autoImplicit false
set_option maxRecDepth 100000
set_option maxHeartbeats 4000000
/-! IbM15: the law's same, given. -/
namespace Ib
open PySem PySem.Spec PyProof.Rows L2 TL PySem.W
variable [Tabl]
def p_l_given : PSp := fun a R => ∃ (s : Shown) (g : Cs), a = [s.toD, .str g] ∧ g.length ≤ 1000 ∧ R (.d (.str (if s.dotted then dots g else g)))
@[simp] theorem e_l_given (s : Shown) (g : Cs) (R : U → Prop) : p_l_given [s.toD, .str g] R ↔ g.length ≤ 1000 ∧ R (.d (.str (if s.dotted then dots g else g))) := by
  unfold p_l_given
  constructor
  · rintro ⟨s', g', e, h⟩
    simp only [List.cons.injEq, D.str.injEq, and_true] at e
    rw [Shown.inj e.1, e.2]
    exact h
  · exact fun h => ⟨s, g, rfl, h⟩
theorem len_l_given (a : List D) (R : U → Prop) (h : p_l_given a R) : a.length = 2 := by
  obtain ⟨x0, x1, rfl, _⟩ := h
  rfl
def ds_l_given : DS :=
    (sSeq (sIf (dNot (dB (d2 vIx (dVar 0) (dC (.int 1))))) (sRet (dVar 1)) sNext)
    (sRet (dMS mJoin (dC (.str k_empty)) (dCons (dLc (icS (dVar 1)) (gN 2) ttYes (d2 (p2 sCat) (dVar 2) (dC (.str k_x46))) [2]) dNil))))
theorem sem_l_given (a : List D) (R : U → Prop) (h : p_l_given a R) : ds_l_given { nx := fun _ => R (.d .non), rt := resR R } (slots N_l_given (a.map U.d)) := by
  obtain ⟨s, g, rfl, hl, h⟩ := h
  obtain ⟨gv, d, gap, join, last, most, rest⟩ := s
  simp only at h
  simp only [ds_l_given, sSeq, sIf, sRet]
  cases d with
  | false => simpa [Shown.toD] using h
  | true =>
    simp only [if_true] at h
    obtain ⟨f, hf⟩ := ext1 (enc := fun c : Nat => D.str [c]) (fun {a b} z => by simpa using z) (fun c => ([c, 46] : Cs)) []
    have e : (signs1 g).map f = g.map fun c => [c, 46] := by
      unfold signs1
      rw [List.map_map]
      exact List.map_congr_left fun c _ => hf c
    show dMS mJoin (dC (.str [])) (dCons (dLc (icS (dVar 1)) (gN 2) ttYes (d2 (p2 sCat) (dVar 2) (dC (.str k_x46))) [2]) dNil) _ _
    refine joinLc (xs := signs1 g) (ok := fun _ => True) f (fun R' h => h) trivial (free1 rfl) (by simp; exact thou hl) (fun x hx P hP => ?_) ?_ ?_
    · obtain ⟨c, _, rfl⟩ := mem_signs1 hx
      rw [hf] at hP
      simp
      exact hP _ rfl
    · rw [e, List.map_map, show ((fun x : Cs => x.length) ∘ fun c => [c, 46]) = fun _ : Nat => 2 from rfl, sum_const]
      omega
    · rw [e]
      exact h
def p_l_same : PSp := fun a R => ∃ x y : Cs, a = [.str x, .str y] ∧ R (.d (.bl (decide (x = y))))
@[simp] theorem e_l_same (x y : Cs) (R : U → Prop) : p_l_same [.str x, .str y] R ↔ R (.d (.bl (decide (x = y)))) := by
  unfold p_l_same
  constructor
  · rintro ⟨x', y', e, h⟩
    cases e
    exact h
  · exact fun h => ⟨x, y, rfl, h⟩
theorem len_l_same (a : List D) (R : U → Prop) (h : p_l_same a R) : a.length = 2 := by
  obtain ⟨x0, x1, rfl, _⟩ := h
  rfl
def ds_l_same : DS :=
    (sSeq (sIf (dB (d2 (p2 nIs) (dVar 1) (dC .non))) (sRet (d2 (p2 nIs) (dVar 0) (dC .non))) sNext)
    (sSeq (sIf (dB (dIsi isBl (dVar 1))) (sRet (dAndV (dIsi isBl (dVar 0)) (d2 (p2 sEq) (dVar 0) (dVar 1)))) sNext)
    (sSeq (sIf (dB (dIsi isStr (dVar 1))) (sRet (dAndV (dIsi isStr (dVar 0)) (d2 (p2 sEq) (dVar 0) (dVar 1)))) sNext)
    sNever)))
theorem sem_l_same (a : List D) (R : U → Prop) (h : p_l_same a R) : ds_l_same { nx := fun _ => R (.d .non), rt := resR R } (slots N_l_same (a.map U.d)) := by
  obtain ⟨x, y, rfl, h⟩ := h
  simpa [ds_l_same] using h
section
variable {P : Program} {w : World} {K : PySem.W.Frag} {mg : Str → Option Value} {base : Heap}
theorem ok_l_given (T : Txt K mg) (F : Df K mg "_law_given" s_l_given) : Ok P w K mg base 1 "_law_given" ["_law_shown_here", "_law_given_here"] (spP K p_l_given) := by
  obtain ⟨f, fd, F, g⟩ := F
  refine ⟨f, fd, fnP F sc_l_given (fun a R h => len_l_given a R h) (by decide) (ds := ds_l_given) (fun cdv A outer s H E hr => ?_) sem_l_given, g, F.kp, F.binds fun _ _ _ _ _ _ us hl => match us, hl with | [_, _], _ => rfl⟩
  exact (dss_cons (ds_if (dt_not (dt_val (de_ix ix_seq lift_ix (dv 0) de_int))) (dss_one (ds_ret (dv 1))) dss_nil)
    (dss_one (ds_ret (de_ms PySem.F.plainAttrs_str PySem.F.slot_str_join PySem.F.type_str_join mt_join lift_join (de_str e_empty) (da_cons (de_lc (own := [("_law_sign", 2)]) rfl sc_l_given.nd (ic_str (dv 1)) (blkOk_by (own := [("_law_sign", 2)]) (N := N_l_given) (sc := defScope s_l_given) (by decide +kernel)) (fun _ _ _ _ _ => (dg_name 2 (by decide) sc_l_given.nd)) (fun _ _ _ _ _ => dts_nil) (fun _ _ _ _ _ => (de_op op_add_str lift_sCat (dv 2) (de_str e_x46)))) da_nil)))))

theorem ok_l_same (T : Txt K mg) (F : Df K mg "_law_same" s_l_same) : Ok P w K mg base 1 "_law_same" ["_law_actual", "_law_due"] (spP K p_l_same) := by
  obtain ⟨f, fd, F, g⟩ := F
  refine ⟨f, fd, fnP F sc_l_same (fun a R h => len_l_same a R h) (by decide) (ds := ds_l_same) (fun cdv A outer s H E hr => ?_) sem_l_same, g, F.kp, F.binds fun _ _ _ _ _ _ us hl => match us, hl with | [_, _], _ => rfl⟩
  exact (dss_cons (ds_if (dt_cmp op_isN lift_isN (dv 1) de_non (nomark _)) (dss_one (ds_ret (de_cmp op_isN lift_isN (dv 0) de_non (nomark _)))) dss_nil)
    (dss_cons (ds_if (dt_val (de_isi kit_isBl (by rfl) T.m_isinstance (by decide +kernel) (by rfl) T.m_bool (by decide +kernel) (dv 1))) (dss_one (ds_ret (de_and (de_isi kit_isBl (by rfl) T.m_isinstance (by decide +kernel) (by rfl) T.m_bool (by decide +kernel) (dv 0)) (de_one (de_cmp op_eq lift_eq (dv 0) (dv 1) (nomark _)))))) dss_nil)
    (dss_cons (ds_if (dt_val (de_isi kit_isStr (by rfl) T.m_isinstance (by decide +kernel) (by rfl) T.m_str (by decide +kernel) (dv 1))) (dss_one (ds_ret (de_and (de_isi kit_isStr (by rfl) T.m_isinstance (by decide +kernel) (by rfl) T.m_str (by decide +kernel) (dv 0)) (de_one (de_cmp op_eq lift_eq (dv 0) (dv 1) (nomark _)))))) dss_nil)
    dss_never)))
end
end Ib
set_option Elab.async false
set_option linter.all false
set_option autoImplicit false
set_option maxRecDepth 100000
set_option maxHeartbeats 4000000
/-! IbM16: the law's people. -/
namespace Ib
open PySem PySem.Spec PyProof.Rows L2 TL PySem.W
variable [Tabl]
/-- a name as the law sets it -/
def pplN (s : Shown) (nm : Cs × Cs) : Cs :=
  if s.given = k_none then nm.1
  else if s.given = k_ahead then (if s.dotted then dots nm.2 else nm.2) ++ s.gap ++ nm.1
  else nm.1 ++ s.gap ++ (if s.dotted then dots nm.2 else nm.2)
def ppl1 (s : Shown) (ns : List (Cs × Cs)) (i : Nat) : Cs := (if 0 < i then (if i = ns.length - 1 then s.last else s.join) else []) ++ pplN s (ns.getD i ([], []))
def pplL (s : Shown) (ns : List (Cs × Cs)) : Cs := ((List.range (min ns.length s.most)).map (ppl1 s ns)).flatten ++ (if min ns.length s.most < ns.length then s.rest else [])
def p_l_people : PSp := fun a R => ∃ (s : Shown) (ns : List (Cs × Cs)), a = [s.toD, .tup (ns.map nmD)] ∧ s.Ok ∧ 1 ≤ ns.length ∧ ns.length ≤ 3 ∧ (∀ x ∈ ns, x.1.length ≤ 1000 ∧ x.2.length ≤ 1000) ∧ R (.d (.str (pplL s ns)))
theorem nmD_inj {a b : Cs × Cs} (h : nmD a = nmD b) : a = b := by
  simp only [nmD, D.tup.injEq, List.cons.injEq, D.str.injEq, and_true] at h
  exact Prod.ext h.1 h.2
@[simp] theorem e_l_people (s : Shown) (ns : List (Cs × Cs)) (R : U → Prop) : p_l_people [s.toD, .tup (ns.map nmD)] R ↔ s.Ok ∧ 1 ≤ ns.length ∧ ns.length ≤ 3 ∧ (∀ x ∈ ns, x.1.length ≤ 1000 ∧ x.2.length ≤ 1000) ∧ R (.d (.str (pplL s ns))) := by
  unfold p_l_people
  constructor
  · rintro ⟨s', ns', e, h⟩
    simp only [List.cons.injEq, D.tup.injEq, and_true] at e
    rw [Shown.inj e.1, map_inj nmD_inj e.2]
    exact h
  · exact fun h => ⟨s, ns, rfl, h⟩
theorem len_l_people (a : List D) (R : U → Prop) (h : p_l_people a R) : a.length = 2 := by
  obtain ⟨x0, x1, rfl, _⟩ := h
  rfl
def ds_l_people : DS :=
    (sSeq (sSet (dIf (dB (d2 (p2 (iCmp fun i j => decide (i < j))) (dCB (vOne fLen) (dCons (dVar 1) dNil)) (d2 vIx (dVar 0) (dC (.int 5))))) (dCB (vOne fLen) (dCons (dVar 1) dNil)) (d2 vIx (dVar 0) (dC (.int 5)))) 2)
    (sSeq (sSet (dC (.str k_empty)) 3)
    (sSeq (sFor (iR (dVar 2)) (gN 4) (sSeq (sIf (dB (d2 (p2 (iCmp fun i j => decide (j < i))) (dVar 4) (dC (.int 0)))) (sSet (d2 (p2 sCat) (dVar 3) (dIf (dB (d2 (p2 sEq) (dVar 4) (d2 (p2 (iOp fun i j => i - j)) (dCB (vOne fLen) (dCons (dVar 1) dNil)) (dC (.int 1))))) (d2 vIx (dVar 0) (dC (.int 4))) (d2 vIx (dVar 0) (dC (.int 3))))) 3) sNext)
    (sSeq (sSet (dCallP p_l_given (dCons (dVar 0) (dCons (d2 vIx (d2 vIx (dVar 1) (dVar 4)) (dC (.int 1))) dNil))) 5)
    (sIf (dB (d2 (p2 sEq) (d2 vIx (dVar 0) (dC (.int 0))) (dC (.str k_none)))) (sSet (d2 (p2 sCat) (dVar 3) (d2 vIx (d2 vIx (dVar 1) (dVar 4)) (dC (.int 0)))) 3) (sIf (dB (d2 (p2 sEq) (d2 vIx (dVar 0) (dC (.int 0))) (dC (.str k_ahead)))) (sSet (d2 (p2 sCat) (d2 (p2 sCat) (d2 (p2 sCat) (dVar 3) (dVar 5)) (d2 vIx (dVar 0) (dC (.int 2)))) (d2 vIx (d2 vIx (dVar 1) (dVar 4)) (dC (.int 0)))) 3) (sSet (d2 (p2 sCat) (d2 (p2 sCat) (d2 (p2 sCat) (dVar 3) (d2 vIx (d2 vIx (dVar 1) (dVar 4)) (dC (.int 0)))) (d2 vIx (dVar 0) (dC (.int 2)))) (dVar 5)) 3))))))
    (sRet (d2 (p2 sCat) (dVar 3) (dIf (dB (d2 (p2 (iCmp fun i j => decide (i < j))) (dVar 2) (dCB (vOne fLen) (dCons (dVar 1) dNil)))) (d2 vIx (dVar 0) (dC (.int 6))) (dC (.str k_empty))))))))
theorem pplN_len {s : Shown} (ok : s.Ok) {nm : Cs × Cs} (h : nm.1.length ≤ 1000 ∧ nm.2.length ≤ 1000) : (pplN s nm).length ≤ 3010 := by
  have hg := txt_le ok.ga
  have hd := dots_len nm.2
  unfold pplN
  split
  · omega
  · split <;> split <;> simp only [List.length_append] <;> omega
theorem sem_l_people (a : List D) (R : U → Prop) (h : p_l_people a R) : ds_l_people { nx := fun _ => R (.d .non), rt := resR R } (slots N_l_people (a.map U.d)) := by
  obtain ⟨s, ns, rfl, ok, n1, n3, hs, h⟩ := h
  have z := sizeLine_eq
  have hl := txt_le ok.la
  have hj := txt_le ok.jo
  have hr := txt_le ok.re
  have hm := ok.m3
  unfold pplL at h
  obtain ⟨f, hf⟩ : ∃ f : Nat → Cs, f = ppl1 s ns := ⟨_, rfl⟩
  rw [← hf] at h
  simp only [ds_l_people, sSeq]
  have hmin : ((if (ns.length : Int) < (s.most : Int) then (ns.length : Int) else (s.most : Int))) = ((min ns.length s.most : Nat) : Int) := by split <;> omega
  generalize hM : min ns.length s.most = m at *
  have go : ∀ (R1 : DEnds) (body : DS) (fin : DS), sFor (iR (dVar 2)) (gN 4) body { R1 with nx := fin R1 } [some (.d s.toD), some (.d (.tup (ns.map nmD))), some (.d (.int (m : Nat))), some (.d (.str [])), none, none] →
      (dIf (dB (d2 (p2 (iCmp fun i j => decide (i < j))) (dCB (vOne fLen) (dCons (dVar 1) dNil)) (d2 vIx (dVar 0) (dC (.int 5))))) (dCB (vOne fLen) (dCons (dVar 1) dNil)) (d2 vIx (dVar 0) (dC (.int 5)))) (slots N_l_people ([s.toD, .tup (ns.map nmD)].map U.d)) (fun w δ1 => match w with
        | .bor _ => False
        | w => sSet (dC (.str k_empty)) 3 { R1 with nx := sFor (iR (dVar 2)) (gN 4) body { R1 with nx := fin R1 } } (δ1.set 2 (some w))) := by
    intro R1 body fin hf
    simp [Shown.toD]
    refine ifB_of (fun e => ?_) fun e => ?_
    · have : ns.length = m := by have := of_decide_eq_true e; omega
      rw [this]
      exact hf
    · have : s.most = m := by have := of_decide_eq_false e; omega
      rw [← this] at hf
      exact hf
  refine go _ _ _ ?_
  unfold sFor
  refine ⟨by omega, by omega, fun i δ => i ≤ m ∧ ∃ q4 q5 : Option U, δ = [some (.d s.toD), some (.d (.tup (ns.map nmD))), some (.d (.int (m : Nat))), some (.d (.str (((List.range i).map f).flatten))), q4, q5], ⟨Nat.zero_le _, none, none, rfl⟩, ?_, ?_⟩
  · rintro i x δ hx ⟨hi, q4, q5, rfl⟩
    obtain ⟨rfl, hlt⟩ : x = .int (i : Nat) ∧ i < m := by
      rw [show ((m : Int).toNat) = m by omega, rngD, List.getElem?_map] at hx
      cases q : (List.range m)[i]? with
      | none => rw [q] at hx; cases hx
      | some w =>
        rw [q] at hx
        cases hx
        obtain ⟨h1, h2⟩ := List.getElem?_eq_some_iff.mp q
        simp at h1 h2
        exact ⟨by rw [h2], by omega⟩
    have fl : ((List.range i).map f).flatten.length ≤ 4000 * i := by
      have := flat_len (xs := List.range i) (f := f) (k := 4000) fun y hy => by
        have hy : y < ns.length := by have := List.mem_range.mp hy; omega
        have := pplN_len ok (hs _ (atN (f := nmD) ([], []) hy).2)
        rw [hf]
        unfold ppl1
        split
        · split <;> simp only [List.length_append] <;> omega
        · rw [List.nil_append]; omega
      simpa using this
    have step : ((List.range (i + 1)).map f).flatten = ((List.range i).map f).flatten ++ f i := by simp [List.range_succ]
    have fi : f i = (if 0 < i then (if i = ns.length - 1 then s.last else s.join) else []) ++ pplN s (ns.getD i ([], [])) := by rw [hf]; rfl
    obtain ⟨e, mm⟩ := atN (f := nmD) ([], []) (show i < ns.length by omega)
    have sl := hs _ mm
    have pl := pplN_len ok sl
    simp only [step, fi]
    generalize ns.getD i ([], []) = nm at *
    generalize ((List.range i).map f).flatten = acc at fl
    obtain ⟨g, dt, gap, join, last, most, rest⟩ := s
    simp only at hl hj hr hm hM h hmin fi step
    have hga := txt_le ok.ga
    simp only at hga
    clear h go hmin hf
    -- the joint
    have first : ∀ (B : DS) (R1 : DEnds), (∀ q, B R1 [some (.d (Shown.mk g dt gap join last most rest).toD), some (.d (.tup (ns.map nmD))), some (.d (.int (m : Nat))), some (.d (.str (acc ++ if 0 < i then (if i = ns.length - 1 then last else join) else []))), some (.d (.int (i : Nat))), q]) →
        sIf (dB (d2 (p2 (iCmp fun i j => decide (j < i))) (dVar 4) (dC (D.int 0)))) (sSet (d2 (p2 sCat) (dVar 3) (dIf (dB (d2 (p2 sEq) (dVar 4) (d2 (p2 (iOp fun i j => i - j)) (dCB (vOne fLen) (dCons (dVar 1) dNil)) (dC (D.int 1))))) (d2 vIx (dVar 0) (dC (D.int 4))) (d2 vIx (dVar 0) (dC (D.int 3))))) 3) sNext { R1 with nx := B R1 }
          [some (.d (Shown.mk g dt gap join last most rest).toD), some (.d (.tup (ns.map nmD))), some (.d (.int (m : Nat))), some (.d (.str acc)), some (.d (.int (i : Nat))), q5] := by
      intro B R1 hB
      have hB := hB q5
      simp [Shown.toD]
      refine ifB_of (fun e => ?_) fun e => ?_
      · have e := of_decide_eq_true e
        rw [if_pos e] at hB
        refine ifB_of (fun e2 => ?_) fun e2 => ?_
        · have e2 := of_decide_eq_true e2
          rw [if_pos (by omega)] at hB
          rw [if_pos (mill2 (by omega))]
          exact hB
        · have e2 := of_decide_eq_false e2
          rw [if_neg (by omega)] at hB
          rw [if_pos (mill2 (by omega))]
          exact hB
      · have e := of_decide_eq_false e
        rw [if_neg e, List.append_nil] at hB
        exact hB
    simp only [gN, sSeq]
    refine first _ _ fun q => ?_
    have jl : (if 0 < i then (if i = ns.length - 1 then last else join) else []).length ≤ 3 := by
      split
      · split <;> omega
      · simp
    generalize (if 0 < i then (if i = ns.length - 1 then last else join) else []) = jt at jl
    have fin : ∀ t : Cs, t = pplN (Shown.mk g dt gap join last most rest) nm → acc ++ jt ++ t = acc ++ (jt ++ pplN (Shown.mk g dt gap join last most rest) nm) := fun t e => by rw [e, List.append_assoc]
    simp only [pplN] at fin pl
    have d2l := dots_len nm.2
    simp [Shown.toD, e, nmD]
    refine (e_l_given ⟨g, dt, gap, join, last, most, rest⟩ _ _).mpr ⟨sl.2, ?_⟩
    simp only [pplN]
    have gl : (if dt = true then dots nm.2 else nm.2).length ≤ 2000 := by split <;> omega
    generalize (if dt = true then dots nm.2 else nm.2) = gt at gl
    refine ifB_of (fun e1 => ?_) fun e1 => ?_
    · rw [if_pos (of_decide_eq_true e1), if_pos (mill2 (by omega))]
      exact ⟨hlt, rfl⟩
    rw [if_neg (of_decide_eq_false e1)]
    refine ifB_of (fun e2 => ?_) fun e2 => ?_
    · rw [if_pos (of_decide_eq_true e2)]
      rw [if_pos (mill2 (by rw [List.length_append]; omega))]
      dsimp only
      rw [if_pos (mill2 (by simp only [List.length_append]; omega))]
      dsimp only
      rw [if_pos (mill2 (by simp only [List.length_append]; omega))]
      exact ⟨hlt, by simp only [List.append_assoc]⟩
    · rw [if_neg (of_decide_eq_false e2)]
      rw [if_pos (mill2 (by omega))]
      dsimp only
      rw [if_pos (mill2 (by simp only [List.length_append]; omega))]
      dsimp only
      rw [if_pos (mill2 (by simp only [List.length_append]; omega))]
      exact ⟨hlt, by simp only [List.append_assoc]⟩
  · rintro δ ⟨_, q4, q5, rfl⟩
    have hlen : (rngD (m : Int).toNat).length = m := by simp [rngD]
    rw [hlen]
    have fl : ((List.range m).map f).flatten.length ≤ 4000 * m := by
      have := flat_len (xs := List.range m) (f := f) (k := 4000) fun y hy => by
        have hy : y < ns.length := by have := List.mem_range.mp hy; omega
        have := pplN_len ok (hs _ (atN (f := nmD) ([], []) hy).2)
        rw [hf]
        unfold ppl1
        split
        · split <;> simp only [List.length_append] <;> omega
        · rw [List.nil_append]; omega
      simpa using this
    generalize ((List.range m).map f).flatten = acc at fl h
    simp [Shown.toD]
    refine ifB_of (fun e => ?_) fun e => ?_
    · rw [if_pos (by have := of_decide_eq_true e; omega)] at h
      rw [if_pos (mill2 (by omega))]
      exact h
    · rw [if_neg (by have := of_decide_eq_false e; omega), List.append_nil] at h
      first
        | (rw [if_pos (mill2 (by omega))]; simpa using h)
        | simpa using ⟨mill2 (by omega), h⟩
        | trace_state
section
variable {P : Program} {w : World} {K : PySem.W.Frag} {mg : Str → Option Value} {base : Heap}
theorem ok_l_people (T : Txt K mg) (F : Df K mg "_law_people" s_l_people) (O_l_given : Ok P w K mg base 1 "_law_given" ["_law_shown_here", "_law_given_here"] (spP K p_l_given)) : Ok P w K mg base 2 "_law_people" ["_law_shown_here", "_law_names"] (spP K p_l_people) := by
  obtain ⟨f, fd, F, g⟩ := F
  refine ⟨f, fd, fnP F sc_l_people (fun a R h => len_l_people a R h) (by decide) (ds := ds_l_people) (fun cdv A outer s H E hr => ?_) sem_l_people, g, F.kp, F.binds fun _ _ _ _ _ _ us hl => match us, hl with | [_, _], _ => rfl⟩
  exact (dss_cons (ds_set 2 (by decide) sc_l_people.nd (de_ifExp (dt_cmp op_lt (lift_iCmp (fun i j => decide (i < j))) (de_callB call_len lift_len (by rfl) T.m_len (by decide +kernel) (da_cons (dv 1) da_nil)) (de_ix ix_seq lift_ix (dv 0) de_int) (nomark _)) (de_callB call_len lift_len (by rfl) T.m_len (by decide +kernel) (da_cons (dv 1) da_nil)) (de_ix ix_seq lift_ix (dv 0) de_int)))
    (dss_cons (ds_set 3 (by decide) sc_l_people.nd (de_str e_empty))
    (dss_cons (ds_for PassesOwn.never rfl (di_rng (by rfl) T.m_range (dv 2)) (dg_name 4 (by decide) sc_l_people.nd) (dss_cons (ds_if (dt_cmp op_gt (lift_iCmp (fun i j => decide (j < i))) (dv 4) de_int (nomark _)) (dss_one (ds_set 3 (by decide) sc_l_people.nd (de_op op_add_str lift_sCat (dv 3) (de_ifExp (dt_cmp op_eq lift_eq (dv 4) (de_op op_sub (lift_iOp fun i j => i - j) (de_callB call_len lift_len (by rfl) T.m_len (by decide +kernel) (da_cons (dv 1) da_nil)) de_int) (nomark _)) (de_ix ix_seq lift_ix (dv 0) de_int) (de_ix ix_seq lift_ix (dv 0) de_int))))) dss_nil)
    (dss_cons (ds_set 5 (by decide) sc_l_people.nd (dcall O_l_given (by exact hr.mono (by decide)) (by rfl) (da_cons (dv 0) (da_cons (de_ix ix_seq lift_ix (de_ix ix_seq lift_ix (dv 1) (dv 4)) de_int) da_nil))))
    (dss_one (ds_if (dt_cmp op_eq lift_eq (de_ix ix_seq lift_ix (dv 0) de_int) (de_str e_none) (nomark _)) (dss_one (ds_set 3 (by decide) sc_l_people.nd (de_op op_add_str lift_sCat (dv 3) (de_ix ix_seq lift_ix (de_ix ix_seq lift_ix (dv 1) (dv 4)) de_int)))) (dss_one (ds_if (dt_cmp op_eq lift_eq (de_ix ix_seq lift_ix (dv 0) de_int) (de_str e_ahead) (nomark _)) (dss_one (ds_set 3 (by decide) sc_l_people.nd (de_op op_add_str lift_sCat (de_op op_add_str lift_sCat (de_op op_add_str lift_sCat (dv 3) (dv 5)) (de_ix ix_seq lift_ix (dv 0) de_int)) (de_ix ix_seq lift_ix (de_ix ix_seq lift_ix (dv 1) (dv 4)) de_int)))) (dss_one (ds_set 3 (by decide) sc_l_people.nd (de_op op_add_str lift_sCat (de_op op_add_str lift_sCat (de_op op_add_str lift_sCat (dv 3) (de_ix ix_seq lift_ix (de_ix ix_seq lift_ix (dv 1) (dv 4)) de_int)) (de_ix ix_seq lift_ix (dv 0) de_int)) (dv 5)))))))))))
    (dss_one (ds_ret (de_op op_add_str lift_sCat (dv 3) (de_ifExp (dt_cmp op_lt (lift_iCmp (fun i j => decide (i < j))) (dv 2) (de_callB call_len lift_len (by rfl) T.m_len (by decide +kernel) (da_cons (dv 1) da_nil)) (nomark _)) (de_ix ix_seq lift_ix (dv 0) de_int) (de_str e_empty))))))))
end
end Ib
set_option Elab.async false
set_option linter.all false
set_option autoImplicit false
set_option maxRecDepth 100000
set_option maxHeartbeats 4000000
/-! IbM17: the law's line. -/
namespace Ib
open PySem PySem.Spec PyProof.Rows L2 TL PySem.W
variable [Tabl]
/-- str(a text or an int) -/
@[simp] def fStrV : U → DEnv → (U → DEnv → Prop) → Prop := fun w δ R => match w with
  | .d (.int i) => i.natAbs.log2 < 1920 ∧ R (.d (.str (numI i))) δ
  | .d (.str s) => R (.d (.str s)) δ
  | _ => False
theorem call_strV {X : Cx} : CallR X (.type "str") (fun xs H Q => (∃ i, xs = [.int i] ∧ i.natAbs.log2 < 1920 ∧ Q (.str (Str.ofString (toString i))) H) ∨ ∃ a, xs = [.str a] ∧ Q (.str a) H) := by
  intro pins s σ H xs us Q I r h
  rcases h with h | h
  · exact call_str_int pins s σ H xs us Q I r h
  · exact SkE.call_str_str pins s σ H xs us Q I r h
theorem lift_strV {K : PySem.W.Frag} : LiftA K (fun xs H Q => (∃ i, xs = [.int i] ∧ i.natAbs.log2 < 1920 ∧ Q (.str (Str.ofString (toString i))) H) ∨ ∃ a, xs = [.str a] ∧ Q (.str a) H) (vOne fStrV) := lift1 fun σ δ H H0 v w R Q E _ t hd q => by
  cases w with
  | d x =>
    cases x with
    | int i =>
      cases (show Is K H v (.int i) from t)
      refine .inl ⟨i, rfl, hd.1, q _ _ _ H hd.2 (AR.refl E) ?_⟩
      have := Is.str (K := K) (H := H) (numI i)
      rw [show S (numI i) = Str.ofString (toString i) from S_of _] at this
      exact this
    | str s =>
      cases (show Is K H v (.str s) from t)
      exact .inr ⟨_, rfl, q _ _ _ H hd (AR.refl E) (Is.str _)⟩
    | _ => exact hd.elim
  | _ => exact hd.elim
def vl (b : Bk) (f : Cs) : Cs := if f = k_year then numI b.year else if f = k_title then b.title else if f = k_place then b.place.getD [] else (b.volume.map numI).getD []
def lnP (s : Shown) (b : Bk) : PP → Cs
  | .mk c => c
  | .fld f => if f = k_names then pplL s b.names else vl b f
def lnPs (s : Shown) (b : Bk) (ps : List PP) : Cs := (ps.map (lnP s b)).flatten
def lnPc (s : Shown) (b : Bk) : Pc → Cs
  | .p x => lnP s b x
  | .cond a t e => lnPs s b (if (if a = k_place then b.place.isSome else b.volume.isSome) = true then t else e)
def lnL (s : Shown) (b : Bk) (ps : List Pc) : Cs := (ps.map (lnPc s b)).flatten
def p_l_line0 : PSp := fun a R => ∃ (ps : List PP) (s : Shown) (b : Bk), a = [.tup (ps.map PP.toD), s.toD, b.toD] ∧ ps.length ≤ 3 ∧ (∀ p ∈ ps, p.Ok) ∧ s.Ok ∧ b.Ok ∧ Sm b.toD ∧ R (.d (.str (lnPs s b ps)))
@[simp] theorem e_l_line0 (ps : List PP) (s : Shown) (b : Bk) (R : U → Prop) : p_l_line0 [.tup (ps.map PP.toD), s.toD, b.toD] R ↔ ps.length ≤ 3 ∧ (∀ p ∈ ps, p.Ok) ∧ s.Ok ∧ b.Ok ∧ Sm b.toD ∧ R (.d (.str (lnPs s b ps))) := by
  unfold p_l_line0
  constructor
  · rintro ⟨p', s', b', e, h⟩
    simp only [List.cons.injEq, D.tup.injEq, and_true] at e
    rw [map_inj PP.inj e.1, Shown.inj e.2.1, Bk.inj e.2.2]
    exact h
  · exact fun h => ⟨ps, s, b, rfl, h⟩
def p_l_line : PSp := fun a R => ∃ (ps : List Pc) (s : Shown) (b : Bk), a = [.tup (ps.map Pc.toD), s.toD, b.toD] ∧ ps.length ≤ 10 ∧ (∀ p ∈ ps, p.Ok) ∧ s.Ok ∧ b.Ok ∧ Sm b.toD ∧ R (.d (.str (lnL s b ps)))
@[simp] theorem e_l_line (ps : List Pc) (s : Shown) (b : Bk) (R : U → Prop) : p_l_line [.tup (ps.map Pc.toD), s.toD, b.toD] R ↔ ps.length ≤ 10 ∧ (∀ p ∈ ps, p.Ok) ∧ s.Ok ∧ b.Ok ∧ Sm b.toD ∧ R (.d (.str (lnL s b ps))) := by
  unfold p_l_line
  constructor
  · rintro ⟨p', s', b', e, h⟩
    simp only [List.cons.injEq, D.tup.injEq, and_true] at e
    rw [map_inj Pc.inj e.1, Shown.inj e.2.1, Bk.inj e.2.2]
    exact h
  · exact fun h => ⟨ps, s, b, rfl, h⟩
theorem len_l_line0 (a : List D) (R : U → Prop) (h : p_l_line0 a R) : a.length = 3 := by
  obtain ⟨x0, x1, x2, rfl, _⟩ := h
  rfl
theorem len_l_line (a : List D) (R : U → Prop) (h : p_l_line a R) : a.length = 3 := by
  obtain ⟨x0, x1, x2, rfl, _⟩ := h
  rfl
def ds_l_line0 : DS :=
    (sSeq (sSet (dC (.str k_empty)) 3)
    (sSeq (sFor (iT (dVar 0)) (gN 4) (sIf (dB (d2 (p2 sEq) (d2 vIx (dVar 4) (dC (.int 0))) (dC (.str k_mark)))) (sSet (d2 (p2 sCat) (dVar 3) (d2 vIx (dVar 4) (dC (.int 1)))) 3) (sIf (dB (d2 (p2 sEq) (d2 vIx (dVar 4) (dC (.int 0))) (dC (.str k_names)))) (sSet (d2 (p2 sCat) (dVar 3) (dCallP p_l_people (dCons (dVar 1) (dCons (d2 vIx (dVar 2) (dC (.int 0))) dNil)))) 3) (sIf (dB (d2 (p2 sEq) (d2 vIx (dVar 4) (dC (.int 0))) (dC (.str k_if)))) sNever (sSeq (sSet (d2 vIx (dVar 2) (d2 (p2 (iOp fun i j => i + j)) (dIndexT (dTup (dCons (dC (.str k_year)) (dCons (dC (.str k_title)) (dCons (dC (.str k_place)) (dCons (dC (.str k_volume)) dNil))))) (d2 vIx (dVar 4) (dC (.int 0)))) (dC (.int 1)))) 6)
    (sSet (d2 (p2 sCat) (dVar 3) (dIf (dB (d2 (p2 nIs) (dVar 6) (dC .non))) (dC (.str k_empty)) (dCB (vOne fStrV) (dCons (dVar 6) dNil)))) 3))))))
    (sRet (dVar 3))))
def ds_l_line : DS :=
    (sSeq (sSet (dC (.str k_empty)) 3)
    (sSeq (sFor (iT (dVar 0)) (gN 4) (sIf (dB (d2 (p2 sEq) (d2 vIx (dVar 4) (dC (.int 0))) (dC (.str k_mark)))) (sSet (d2 (p2 sCat) (dVar 3) (d2 vIx (dVar 4) (dC (.int 1)))) 3) (sIf (dB (d2 (p2 sEq) (d2 vIx (dVar 4) (dC (.int 0))) (dC (.str k_names)))) (sSet (d2 (p2 sCat) (dVar 3) (dCallP p_l_people (dCons (dVar 1) (dCons (d2 vIx (dVar 2) (dC (.int 0))) dNil)))) 3) (sIf (dB (d2 (p2 sEq) (d2 vIx (dVar 4) (dC (.int 0))) (dC (.str k_if)))) (sSeq (sSet (dIf (dB (d2 (p2 sEq) (d2 vIx (dVar 4) (dC (.int 1))) (dC (.str k_place)))) (d2 (p2 nNot) (d2 vIx (dVar 2) (dC (.int 3))) (dC .non)) (d2 (p2 nNot) (d2 vIx (dVar 2) (dC (.int 4))) (dC .non))) 5)
    (sSet (d2 (p2 sCat) (dVar 3) (dCallP p_l_line0 (dCons (dIf (dB (dVar 5)) (d2 vIx (dVar 4) (dC (.int 2))) (d2 vIx (dVar 4) (dC (.int 3)))) (dCons (dVar 1) (dCons (dVar 2) dNil))))) 3)) (sSeq (sSet (d2 vIx (dVar 2) (d2 (p2 (iOp fun i j => i + j)) (dIndexT (dTup (dCons (dC (.str k_year)) (dCons (dC (.str k_title)) (dCons (dC (.str k_place)) (dCons (dC (.str k_volume)) dNil))))) (d2 vIx (dVar 4) (dC (.int 0)))) (dC (.int 1)))) 6)
    (sSet (d2 (p2 sCat) (dVar 3) (dIf (dB (d2 (p2 nIs) (dVar 6) (dC .non))) (dC (.str k_empty)) (dCB (vOne fStrV) (dCons (dVar 6) dNil)))) 3))))))
    (sRet (dVar 3))))
def bodyL (B : DS) : DS := (sIf (dB (d2 (p2 sEq) (d2 vIx (dVar 4) (dC (.int 0))) (dC (.str k_mark)))) (sSet (d2 (p2 sCat) (dVar 3) (d2 vIx (dVar 4) (dC (.int 1)))) 3) (sIf (dB (d2 (p2 sEq) (d2 vIx (dVar 4) (dC (.int 0))) (dC (.str k_names)))) (sSet (d2 (p2 sCat) (dVar 3) (dCallP p_l_people (dCons (dVar 1) (dCons (d2 vIx (dVar 2) (dC (.int 0))) dNil)))) 3) (sIf (dB (d2 (p2 sEq) (d2 vIx (dVar 4) (dC (.int 0))) (dC (.str k_if)))) B (sSeq (sSet (d2 vIx (dVar 2) (d2 (p2 (iOp fun i j => i + j)) (dIndexT (dTup (dCons (dC (.str k_year)) (dCons (dC (.str k_title)) (dCons (dC (.str k_place)) (dCons (dC (.str k_volume)) dNil))))) (d2 vIx (dVar 4) (dC (.int 0)))) (dC (.int 1)))) 6)
    (sSet (d2 (p2 sCat) (dVar 3) (dIf (dB (d2 (p2 nIs) (dVar 6) (dC .non))) (dC (.str k_empty)) (dCB (vOne fStrV) (dCons (dVar 6) dNil)))) 3)))))
theorem pplL_len {s : Shown} (ok : s.Ok) {ns : List (Cs × Cs)} (n3 : ns.length ≤ 3) (hs : ∀ x ∈ ns, x.1.length ≤ 1000 ∧ x.2.length ≤ 1000) : (pplL s ns).length ≤ 12003 := by
  have hl := txt_le ok.la
  have hj := txt_le ok.jo
  have hr := txt_le ok.re
  have := flat_len (xs := List.range (min ns.length s.most)) (f := ppl1 s ns) (k := 4000) fun y hy => by
    have hy : y < ns.length := by have := List.mem_range.mp hy; omega
    have := pplN_len ok (hs _ (atN (f := nmD) ([], []) hy).2)
    unfold ppl1
    split
    · split <;> simp only [List.length_append] <;> omega
    · rw [List.nil_append]; omega
  rw [List.length_range] at this
  unfold pplL
  rw [List.length_append]
  split
  · omega
  · simp only [List.length_nil]; omega
theorem plainStep {B : DS} {R1 : DEnds} {d0 : D} {s : Shown} {b : Bk} {acc : Cs} {p : PP} {q5 q6 : Option U} (okp : p.Ok) (ok : s.Ok) (hb : b.Ok) (hs : Sm b.toD) (ha : acc.length ≤ 500000)
    (h : ∀ q6', R1.nx [some (.d d0), some (.d s.toD), some (.d b.toD), some (.d (.str (acc ++ lnP s b p))), some (.d p.toD), q5, q6']) : bodyL B R1 [some (.d d0), some (.d s.toD), some (.d b.toD), some (.d (.str acc)), some (.d p.toD), q5, q6] := by
  obtain ⟨s1, s2, s3, s4⟩ := Sm_bk hs
  cases p with
  | mk c =>
    have hc := txt_le (show txtL 1 3 c = true from okp)
    have h := h q6
    simp [bodyL, PP.toD]
    rw [if_pos (mill2 (by omega))]
    exact h
  | fld f =>
    have okf : f ∈ FLD := okp
    have hm : f ≠ k_mark := fun z => by subst z; exact absurd okf (by decide)
    have hi : f ≠ k_if := fun z => by subst z; exact absurd okf (by decide)
    obtain ⟨ns, y, t, pl, v⟩ := b
    simp only [lnP] at h
    by_cases hn : f = k_names
    · subst hn
      have h := h q6
      have pl := pplL_len ok hb.n3 s2
      simp [bodyL, PP.toD, Bk.toD]
      refine ⟨ok, hb.n1, hb.n3, fun x y hxy => s2 (x, y) hxy, ?_⟩
      rw [if_pos (mill2 (by simp only at pl; omega))]
      simpa [PP.toD, Bk.toD] using h
    · have ix : ∀ R : Nat → Prop, (f = k_year → R 0) → (f = k_title → R 1) → (f = k_place → R 2) → (f = k_volume → R 3) → match fstIx f [k_year, k_title, k_place, k_volume] with
          | some j => R j
          | none => False := by
        intro R r0 r1 r2 r3
        simp only [List.mem_cons, List.not_mem_nil, or_false] at okf
        rcases okf with z | z | z | z | z
        · exact absurd z hn
        · subst z; exact r0 rfl
        · subst z; exact r1 rfl
        · subst z; exact r2 rfl
        · subst z; exact r3 rfl
      have y1 := hb.yr
      have y2 := hb.vo
      simp only at y1 y2 s4 s3
      have yl := log_small (i := y) (by omega) (by omega)
      have yn := numI_len (i := y) (by omega) (by omega)
      simp only [if_neg hn, Bk.toD] at h
      simp [bodyL, PP.toD, hm, hi, hn, Bk.toD]
      refine ⟨mill (by decide), ?_⟩
      refine ix _ (fun z => ?_) (fun z => ?_) (fun z => ?_) (fun z => ?_)
      · subst z
        have h := h (some (.d (.int y)))
        simp [vl, PP.toD] at h
        simp
        rw [if_pos (mill2 (by omega))]
        exact ⟨yl, h⟩
      · subst z
        have h := h (some (.d (.str t)))
        simp [vl, PP.toD] at h
        simp
        rw [if_pos (mill2 (by omega))]
        exact h
      · subst z
        cases pl with
        | none =>
          have h := h (some (.d .non))
          simp [vl, PP.toD, opS] at h
          simp [opS]
          rw [if_pos (mill2 (by omega))]
          exact h
        | some pl =>
          have := s4 pl rfl
          have h := h (some (.d (.str pl)))
          simp [vl, PP.toD, opS] at h
          simp [opS]
          rw [if_pos (mill2 (by omega))]
          exact h
      · subst z
        cases v with
        | none =>
          have h := h (some (.d .non))
          simp [vl, PP.toD, opI] at h
          simp [opI]
          rw [if_pos (mill2 (by omega))]
          exact h
        | some v =>
          have := y2 v rfl
          have vn := numI_len (i := v) (by omega) (by omega)
          have h := h (some (.d (.int v)))
          simp [vl, PP.toD, opI] at h
          simp [opI]
          rw [if_pos (mill2 (by omega))]
          exact ⟨log_small (by omega) (by omega), h⟩
theorem numO_len {v : Option Int} (h : ∀ x, v = some x → 1 ≤ x ∧ x ≤ 999) : ((v.map numI).getD []).length ≤ 4 := by
  cases v with
  | none => simp
  | some x =>
    have := h x rfl
    have := numI_len (i := x) (by omega) (by omega)
    simpa using this
theorem lnP_len {s : Shown} {b : Bk} {p : PP} (okp : p.Ok) (ok : s.Ok) (hb : b.Ok) (hs : Sm b.toD) : (lnP s b p).length ≤ 12003 := by
  obtain ⟨s1, s2, s3, s4⟩ := Sm_bk hs
  cases p with
  | mk c =>
    have hc := txt_le (show txtL 1 3 c = true from okp)
    simp only [lnP]
    omega
  | fld f =>
    simp only [lnP]
    split
    · exact pplL_len ok hb.n3 s2
    · have yn := numI_len (i := b.year) (by have := hb.yr; omega) (by have := hb.yr; omega)
      have vn := numO_len hb.vo
      unfold vl
      split
      · omega
      · split
        · omega
        · split
          · cases e : b.place with
            | none => simp
            | some q => have := s4 q e; simp; omega
          · omega
theorem lnPs_len {s : Shown} {b : Bk} {ps : List PP} (hp : ∀ p ∈ ps, p.Ok) (ok : s.Ok) (hb : b.Ok) (hs : Sm b.toD) : (lnPs s b ps).length ≤ 12003 * ps.length :=
  flat_len fun p h => lnP_len (hp p h) ok hb hs
theorem lnPs_snoc (s : Shown) (b : Bk) (ps : List PP) (p : PP) : lnPs s b (ps ++ [p]) = lnPs s b ps ++ lnP s b p := by simp [lnPs]
theorem take_snoc {α : Type} {l : List α} {i : Nat} {x : α} (e : l[i]? = some x) : l.take (i + 1) = l.take i ++ [x] := by
  rw [List.take_add_one, e]
  rfl
theorem sem_l_line0 (a : List D) (R : U → Prop) (h : p_l_line0 a R) : ds_l_line0 { nx := fun _ => R (.d .non), rt := resR R } (slots N_l_line (a.map U.d)) := by
  obtain ⟨ps, s, b, rfl, l3, hp, ok, hb, hs, h⟩ := h
  show sSeq (sSet (dC (.str k_empty)) 3) (sSeq (sFor (iT (dVar 0)) (gN 4) (bodyL sNever)) (sRet (dVar 3))) _ _
  simp only [sSeq, sSet, dC]
  unfold sFor
  refine ⟨fun i δ => i ≤ ps.length ∧ ∃ q4 q5 q6 : Option U, δ = [some (.d (.tup (ps.map PP.toD))), some (.d s.toD), some (.d b.toD), some (.d (.str (lnPs s b (ps.take i)))), q4, q5, q6], ⟨Nat.zero_le _, none, none, none, rfl⟩, ?_, ?_⟩
  · rintro i x δ hx ⟨hi, q4, q5, q6, rfl⟩
    rw [List.getElem?_map] at hx
    cases e : ps[i]? with
    | none => rw [e] at hx; cases hx
    | some p =>
      rw [e] at hx
      cases hx
      have hlt := (List.getElem?_eq_some_iff.mp e).1
      have al := lnPs_len (ps := ps.take i) (fun p h => hp p (List.mem_of_mem_take h)) ok hb hs
      have tl : (ps.take i).length ≤ 3 := by rw [List.length_take]; omega
      refine plainStep (d0 := .tup (ps.map PP.toD)) (hp p (List.mem_of_getElem? e)) ok hb hs (by omega) fun q => ⟨hlt, some (.d p.toD), q5, q, ?_⟩
      rw [take_snoc e, lnPs_snoc]
  · rintro δ ⟨_, q4, q5, q6, rfl⟩
    rw [List.length_map, List.take_length]
    exact h
theorem lnPc_len {s : Shown} {b : Bk} {p : Pc} (okp : p.Ok) (ok : s.Ok) (hb : b.Ok) (hs : Sm b.toD) : (lnPc s b p).length ≤ 36009 := by
  cases p with
  | p x => have := lnP_len (p := x) okp ok hb hs; simp only [lnPc]; omega
  | cond a t e =>
    obtain ⟨_, ⟨t3, ht⟩, ⟨e3, he⟩⟩ := okp
    have := lnPs_len ht ok hb hs
    have := lnPs_len he ok hb hs
    simp only [lnPc]
    cases (if a = k_place then b.place.isSome else b.volume.isSome)
    · simp only [Bool.false_eq_true, if_false]; omega
    · simp only [if_true]; omega
theorem lnL_len {s : Shown} {b : Bk} {ps : List Pc} (hp : ∀ p ∈ ps, p.Ok) (ok : s.Ok) (hb : b.Ok) (hs : Sm b.toD) : (lnL s b ps).length ≤ 36009 * ps.length :=
  flat_len fun p h => lnPc_len (hp p h) ok hb hs
theorem lnL_snoc (s : Shown) (b : Bk) (ps : List Pc) (p : Pc) : lnL s b (ps ++ [p]) = lnL s b ps ++ lnPc s b p := by simp [lnL]
/-- the law's if -/
def condB2 : DS := sSet (d2 (p2 sCat) (dVar 3) (dCallP p_l_line0 (dCons (dIf (dB (dVar 5)) (d2 vIx (dVar 4) (dC (.int 2))) (d2 vIx (dVar 4) (dC (.int 3)))) (dCons (dVar 1) (dCons (dVar 2) dNil))))) 3
def condB : DS := (sSeq (sSet (dIf (dB (d2 (p2 sEq) (d2 vIx (dVar 4) (dC (.int 1))) (dC (.str k_place)))) (d2 (p2 nNot) (d2 vIx (dVar 2) (dC (.int 3))) (dC .non)) (d2 (p2 nNot) (d2 vIx (dVar 2) (dC (.int 4))) (dC .non))) 5) condB2)
theorem nNot_opS (p : Option Cs) : nNot (opS p) .non = some (.bl p.isSome) := by cases p <;> simp [opS]
theorem nNot_opI (p : Option Int) : nNot (opI p) .non = some (.bl p.isSome) := by cases p <;> simp [opI]
theorem condStep {R1 : DEnds} {d0 : D} {s : Shown} {b : Bk} {acc : Cs} {k : Cs} {t e : List PP} {q5 q6 : Option U} (okp : (Pc.cond k t e).Ok) (ok : s.Ok) (hb : b.Ok) (hs : Sm b.toD) (ha : acc.length ≤ 500000)
    (h : ∀ q5', R1.nx [some (.d d0), some (.d s.toD), some (.d b.toD), some (.d (.str (acc ++ lnPc s b (.cond k t e)))), some (.d (Pc.cond k t e).toD), q5', q6]) : bodyL condB R1 [some (.d d0), some (.d s.toD), some (.d b.toD), some (.d (.str acc)), some (.d (Pc.cond k t e).toD), q5, q6] := by
  have hl := lnPc_len okp ok hb hs
  obtain ⟨hk, ⟨t3, ht⟩, ⟨e3, he⟩⟩ := okp
  have h1 : k_if ≠ k_mark := by decide
  have h2 : k_if ≠ k_names := by decide
  simp only [lnPc] at h hl
  simp only [bodyL, condB, Pc.toD]
  have go : ∀ c : Bool, c = (if k = k_place then b.place.isSome else b.volume.isSome) → condB2 R1
      [some (.d d0), some (.d s.toD), some (.d b.toD), some (.d (.str acc)), some (.d (.tup [.str k_if, .str k, .tup (t.map PP.toD), .tup (e.map PP.toD)])), some (.d (.bl c)), q6] := by
    intro c hc
    rw [← hc] at h hl
    have h := h (some (.d (.bl c)))
    unfold condB2
    cases c with
    | true =>
      simp
      refine ⟨t3, ht, ok, hb, hs, ?_⟩
      simp only [if_true] at h hl
      rw [if_pos (mill2 (by omega))]
      exact h
    | false =>
      simp
      refine ⟨e3, he, ok, hb, hs, ?_⟩
      simp only [Bool.false_eq_true, if_false] at h hl
      rw [if_pos (mill2 (by omega))]
      exact h
  obtain ⟨ns, y, ti, pl, v⟩ := b
  by_cases hp : k = k_place
  · subst hp
    have g := go _ (by rw [if_pos rfl])
    cases pl <;> simp [h1, h2, Bk.toD, opS] <;> exact g
  · have g := go _ (by rw [if_neg hp])
    cases v <;> simp [h1, h2, Bk.toD, hp, opI] <;> exact g
theorem sem_l_line (a : List D) (R : U → Prop) (h : p_l_line a R) : ds_l_line { nx := fun _ => R (.d .non), rt := resR R } (slots N_l_line (a.map U.d)) := by
  obtain ⟨ps, s, b, rfl, l3, hp, ok, hb, hs, h⟩ := h
  show sSeq (sSet (dC (.str k_empty)) 3) (sSeq (sFor (iT (dVar 0)) (gN 4) (bodyL condB)) (sRet (dVar 3))) _ _
  simp only [sSeq, sSet, dC]
  unfold sFor
  refine ⟨fun i δ => i ≤ ps.length ∧ ∃ q4 q5 q6 : Option U, δ = [some (.d (.tup (ps.map Pc.toD))), some (.d s.toD), some (.d b.toD), some (.d (.str (lnL s b (ps.take i)))), q4, q5, q6], ⟨Nat.zero_le _, none, none, none, rfl⟩, ?_, ?_⟩
  · rintro i x δ hx ⟨hi, q4, q5, q6, rfl⟩
    rw [List.getElem?_map] at hx
    cases e : ps[i]? with
    | none => rw [e] at hx; cases hx
    | some p =>
      rw [e] at hx
      cases hx
      have hlt := (List.getElem?_eq_some_iff.mp e).1
      have al := lnL_len (ps := ps.take i) (fun p h => hp p (List.mem_of_mem_take h)) ok hb hs
      have tl : (ps.take i).length ≤ 10 := by rw [List.length_take]; omega
      have okp := hp p (List.mem_of_getElem? e)
      have nx : lnL s b (ps.take (i + 1)) = lnL s b (ps.take i) ++ lnPc s b p := by rw [take_snoc e, lnL_snoc]
      cases p with
      | p x => exact plainStep (d0 := .tup (ps.map Pc.toD)) okp ok hb hs (by omega) fun q => ⟨hlt, some (.d x.toD), q5, q, by rw [nx]; rfl⟩
      | cond k t e' => exact condStep (d0 := .tup (ps.map Pc.toD)) okp ok hb hs (by omega) fun q => ⟨hlt, some (.d (Pc.cond k t e').toD), q, q6, by rw [nx]⟩
  · rintro δ ⟨_, q4, q5, q6, rfl⟩
    rw [List.length_map, List.take_length]
    exact h
section
variable {P : Program} {w : World} {K : PySem.W.Frag} {mg : Str → Option Value} {base : Heap}
theorem ok_l_line0 (T : Txt K mg) (F : Df K mg "_law_line" s_l_line) (O_l_people : Ok P w K mg base 2 "_law_people" ["_law_shown_here", "_law_names"] (spP K p_l_people)) : Ok P w K mg base 3 "_law_line" ["_law_pieces", "_law_shown_here", "_law_book_here"] (spP K p_l_line0) := by
  obtain ⟨f, fd, F, g⟩ := F
  refine ⟨f, fd, fnP F sc_l_line (fun a R h => len_l_line0 a R h) (by decide) (ds := ds_l_line0) (fun cdv A outer s H E hr => ?_) sem_l_line0, g, F.kp, F.binds fun _ _ _ _ _ _ us hl => match us, hl with | [_, _, _], _ => rfl⟩
  exact (dss_cons (ds_set 3 (by decide) sc_l_line.nd (de_str e_empty))
    (dss_cons (ds_for PassesOwn.never rfl (di_tup (dv 0)) (dg_name 4 (by decide) sc_l_line.nd) (dss_one (ds_if (dt_cmp op_eq lift_eq (de_ix ix_seq lift_ix (dv 4) de_int) (de_str e_mark) (nomark _)) (dss_one (ds_set 3 (by decide) sc_l_line.nd (de_op op_add_str lift_sCat (dv 3) (de_ix ix_seq lift_ix (dv 4) de_int)))) (dss_one (ds_if (dt_cmp op_eq lift_eq (de_ix ix_seq lift_ix (dv 4) de_int) (de_str e_names) (nomark _)) (dss_one (ds_set 3 (by decide) sc_l_line.nd (de_op op_add_str lift_sCat (dv 3) (dcall O_l_people (by exact hr.mono (by decide)) (by rfl) (da_cons (dv 1) (da_cons (de_ix ix_seq lift_ix (dv 2) de_int) da_nil)))))) (dss_one (ds_if (dt_cmp op_eq lift_eq (de_ix ix_seq lift_ix (dv 4) de_int) (de_str e_if) (nomark _)) dss_never (dss_cons (ds_set 6 (by decide) sc_l_line.nd (de_ix ix_seq lift_ix (dv 2) (de_op op_add (lift_iOp fun i j => i + j) (de_indexT (de_tup (da_cons (de_str e_year) (da_cons (de_str e_title) (da_cons (de_str e_place) (da_cons (de_str e_volume) da_nil))))) (de_ix ix_seq lift_ix (dv 4) de_int)) de_int)))
    (dss_one (ds_set 3 (by decide) sc_l_line.nd (de_op op_add_str lift_sCat (dv 3) (de_ifExp (dt_cmp op_isN lift_isN (dv 6) de_non (nomark _)) (de_str e_empty) (de_callTy call_strV lift_strV (by rfl) T.m_str (by decide +kernel) (da_cons (dv 6) da_nil))))))))))))))
    (dss_one (ds_ret (dv 3)))))
theorem ok_l_line (T : Txt K mg) (F : Df K mg "_law_line" s_l_line) (O_l_people : Ok P w K mg base 2 "_law_people" ["_law_shown_here", "_law_names"] (spP K p_l_people)) (O_l_line : Ok P w K mg base 3 "_law_line" ["_law_pieces", "_law_shown_here", "_law_book_here"] (spP K p_l_line0)) : Ok P w K mg base 4 "_law_line" ["_law_pieces", "_law_shown_here", "_law_book_here"] (spP K p_l_line) := by
  obtain ⟨f, fd, F, g⟩ := F
  refine ⟨f, fd, fnP F sc_l_line (fun a R h => len_l_line a R h) (by decide) (ds := ds_l_line) (fun cdv A outer s H E hr => ?_) sem_l_line, g, F.kp, F.binds fun _ _ _ _ _ _ us hl => match us, hl with | [_, _, _], _ => rfl⟩
  exact (dss_cons (ds_set 3 (by decide) sc_l_line.nd (de_str e_empty))
    (dss_cons (ds_for PassesOwn.never rfl (di_tup (dv 0)) (dg_name 4 (by decide) sc_l_line.nd) (dss_one (ds_if (dt_cmp op_eq lift_eq (de_ix ix_seq lift_ix (dv 4) de_int) (de_str e_mark) (nomark _)) (dss_one (ds_set 3 (by decide) sc_l_line.nd (de_op op_add_str lift_sCat (dv 3) (de_ix ix_seq lift_ix (dv 4) de_int)))) (dss_one (ds_if (dt_cmp op_eq lift_eq (de_ix ix_seq lift_ix (dv 4) de_int) (de_str e_names) (nomark _)) (dss_one (ds_set 3 (by decide) sc_l_line.nd (de_op op_add_str lift_sCat (dv 3) (dcall O_l_people (by exact hr.mono (by decide)) (by rfl) (da_cons (dv 1) (da_cons (de_ix ix_seq lift_ix (dv 2) de_int) da_nil)))))) (dss_one (ds_if (dt_cmp op_eq lift_eq (de_ix ix_seq lift_ix (dv 4) de_int) (de_str e_if) (nomark _)) (dss_cons (ds_set 5 (by decide) sc_l_line.nd (de_ifExp (dt_cmp op_eq lift_eq (de_ix ix_seq lift_ix (dv 4) de_int) (de_str e_place) (nomark _)) (de_cmp op_notN lift_notN (de_ix ix_seq lift_ix (dv 2) de_int) de_non (nomark _)) (de_cmp op_notN lift_notN (de_ix ix_seq lift_ix (dv 2) de_int) de_non (nomark _))))
    (dss_one (ds_set 3 (by decide) sc_l_line.nd (de_op op_add_str lift_sCat (dv 3) (dcall O_l_line (by exact hr.mono (by decide)) (by rfl) (da_cons (de_ifExp (dt_val (dv 5)) (de_ix ix_seq lift_ix (dv 4) de_int) (de_ix ix_seq lift_ix (dv 4) de_int)) (da_cons (dv 1) (da_cons (dv 2) da_nil)))))))) (dss_cons (ds_set 6 (by decide) sc_l_line.nd (de_ix ix_seq lift_ix (dv 2) (de_op op_add (lift_iOp fun i j => i + j) (de_indexT (de_tup (da_cons (de_str e_year) (da_cons (de_str e_title) (da_cons (de_str e_place) (da_cons (de_str e_volume) da_nil))))) (de_ix ix_seq lift_ix (dv 4) de_int)) de_int)))
    (dss_one (ds_set 3 (by decide) sc_l_line.nd (de_op op_add_str lift_sCat (dv 3) (de_ifExp (dt_cmp op_isN lift_isN (dv 6) de_non (nomark _)) (de_str e_empty) (de_callTy call_strV lift_strV (by rfl) T.m_str (by decide +kernel) (da_cons (dv 6) da_nil))))))))))))))
    (dss_one (ds_ret (dv 3)))))
end
end Ib
set_option Elab.async false
set_option linter.all false
set_option autoImplicit false
set_option maxRecDepth 100000
set_option maxHeartbeats 4000000
/-! IbM18: pieces and styles drawn. -/
namespace Ib
open PySem PySem.Spec PyProof.Rows L2 TL PySem.W
variable [Tabl]
theorem seqCut {a b : DS} {R : DEnds} {δ : DEnv} (St : DEnv → Prop) (h1 : ∀ N : DEnv → Prop, (∀ δ', St δ' → N δ') → a { R with nx := N } δ) (h2 : ∀ δ', St δ' → b R δ') : sSeq a b R δ := h1 _ h2
def flds : List PP → List Cs
  | [] => []
  | .mk _ :: r => flds r
  | .fld f :: r => f :: flds r
theorem flds_app : ∀ a b : List PP, flds (a ++ b) = flds a ++ flds b
  | [], _ => rfl
  | .mk _ :: r, b => flds_app r b
  | .fld f :: r, b => congrArg (f :: ·) (flds_app r b)
theorem flds_mks (ms : List Cs) : flds (ms.map PP.mk) = [] := by
  induction ms with
  | nil => rfl
  | cons m r ih => exact ih
/-- a piece shows nothing but f, and that once -/
def One (f : Cs) (x : Pc) : Prop := ∀ sh, flds (x.get sh) = [] ∨ flds (x.get sh) = [f]
def p_l_piece : RSp := fun n a R => ∃ f, a = [.str f] ∧ f ∈ FLD ∧ 200 ≤ n ∧ ∀ (x : Pc) n', x.Ok → One f x → n ≤ n' + 200 → R (.d x.toD) n'
@[simp] theorem e_l_piece (n : Nat) (f : Cs) (R : U → Nat → Prop) : p_l_piece n [.str f] R ↔ f ∈ FLD ∧ 200 ≤ n ∧ ∀ (x : Pc) n', x.Ok → One f x → n ≤ n' + 200 → R (.d x.toD) n' := by
  unfold p_l_piece
  constructor
  · rintro ⟨f', e, h⟩
    simp only [List.cons.injEq, D.str.injEq, and_true] at e
    rw [e]
    exact h
  · exact fun h => ⟨f, rfl, h⟩
theorem len_l_piece (n : Nat) (a : List D) (R : U → Nat → Prop) (h : p_l_piece n a R) : a.length + 1 = 2 := by
  obtain ⟨k, rfl, _⟩ := h
  rfl
def ds_l_piece : DS :=
    (sSeq (sSet (dCallR p_l_draw (dCons (dVar 0) (dCons (dC (.int 4)) dNil))) 2)
    (sSeq (sIf (dB (d2 (p2 (iCmp fun i j => decide (i < j))) (dVar 2) (dC (.int 2)))) (sRet (dTup (dCons (dVar 1) dNil))) sNext)
    (sSeq (sSet (dLst (dCons (dTup (dCons (dVar 1) dNil)) dNil)) 3)
    (sSeq (sIf (dB (d2 (p2 sEq) (dCallR p_l_draw (dCons (dVar 0) (dCons (dC (.int 2)) dNil))) (dC (.int 0)))) (sExpr (dML (mMut fInsert) (dVar 3) (dCons (dCallR p_l_draw (dCons (dVar 0) (dCons (dC (.int 2)) dNil))) (dCons (dCallR p_l_mark (dCons (dVar 0) dNil)) dNil)))) sNext)
    (sSeq (sIf (dAnd (dB (d2 (p2 sEq) (dVar 2) (dC (.int 2)))) (dB (d2 (vInS false) (dVar 1) (dTup (dCons (dC (.str k_place)) (dCons (dC (.str k_volume)) dNil)))))) (sSeq (sSet (dLc (icR (dCallR p_l_draw (dCons (dVar 0) (dCons (dC (.int 4)) dNil)))) (gN 6) ttYes (dCallR p_l_mark (dCons (dVar 0) dNil)) [6]) 4)
    (sRet (dTup (dCons (dC (.str k_if)) (dCons (dVar 1) (dCons (dCB (vOne fTuple) (dCons (dVar 3) dNil)) (dCons (dCB (vOne fTuple) (dCons (dVar 4) dNil)) dNil))))))) sNext)
    (sSeq (sSet (dLc (icR (dCallR p_l_draw (dCons (dVar 0) (dCons (dC (.int 3)) dNil)))) (gN 6) ttYes (dCallR p_l_mark (dCons (dVar 0) dNil)) [6]) 4)
    (sSeq (sExpr (dML (mMut fInsert) (dVar 4) (dCons (dCallR p_l_draw (dCons (dVar 0) (dCons (d2 (p2 (iOp fun i j => i + j)) (dCB (vOne fLen) (dCons (dVar 4) dNil)) (dC (.int 1))) dNil))) (dCons (dTup (dCons (dVar 1) dNil)) dNil))))
    (sSeq (sSet (d2 vIx (dTup (dCons (dC (.str k_place)) (dCons (dC (.str k_volume)) dNil))) (dCallR p_l_draw (dCons (dVar 0) (dCons (dC (.int 2)) dNil)))) 5)
    (sSeq (sIf (dB (d2 (p2 sEq) (dCallR p_l_draw (dCons (dVar 0) (dCons (dC (.int 2)) dNil))) (dC (.int 0)))) (sRet (dTup (dCons (dC (.str k_if)) (dCons (dVar 5) (dCons (dCB (vOne fTuple) (dCons (dVar 3) dNil)) (dCons (dCB (vOne fTuple) (dCons (dVar 4) dNil)) dNil)))))) sNext)
    (sRet (dTup (dCons (dC (.str k_if)) (dCons (dVar 5) (dCons (dCB (vOne fTuple) (dCons (dVar 4) dNil)) (dCons (dIf (dB (d2 (p2 (iCmp fun i j => decide (j < i))) (dCallR p_l_draw (dCons (dVar 0) (dCons (dC (.int 3)) dNil))) (dC (.int 0)))) (dCB (vOne fTuple) (dCons (dVar 3) dNil)) (dTup dNil)) dNil)))))))))))))))
theorem marksOf {ds : List D} (h : ∀ d ∈ ds, ∃ l, d = (PP.mk l).toD ∧ txtL 1 3 l = true) : ∃ ms : List Cs, ds = (ms.map PP.mk).map PP.toD ∧ ms.length = ds.length ∧ ∀ p ∈ ms.map PP.mk, p.Ok := by
  induction ds with
  | nil => exact ⟨[], rfl, rfl, fun _ h => nomatch h⟩
  | cons d r ih =>
    obtain ⟨l, rfl, hl⟩ := h d (by simp)
    obtain ⟨ms, rfl, h1, h2⟩ := ih fun y hy => h y (by simp [hy])
    exact ⟨l :: ms, rfl, by simp, fun y hy => by
      rcases List.mem_cons.mp hy with rfl | hy
      · exact hl
      · exact h2 y hy⟩
/-- [_law_mark(reader) for _ in range(draw(k))] -/
theorem marks_rd {δ : DEnv} {P : U → DEnv → Prop} {ls : Addr} {n i : Nat} {k : Int} (env : Nat → DEnv) (he : δ = env n) (h0 : ∀ n, (env n)[0]? = some (some (.rdr ls n))) (hs : ∀ n m, (env n).set 0 (some (.rdr ls m)) = env m) (hf : ∀ n, Free (env n) [i]) (hg : ∀ n m x, ((env n).set i (some (.d x)))[0]? = some (some (.rdr ls n)) ∧ wipeE (((env n).set i (some (.d x))).set 0 (some (.rdr ls m))) [i] = env m)
    (k1 : 1 ≤ k) (k4 : k ≤ 4) (hn : 100 ≤ n)
    (h : ∀ (ms : List Cs) n', ms.length < k.toNat → (∀ p ∈ ms.map PP.mk, p.Ok) → n ≤ n' + 61 → P (.lst ((ms.map PP.mk).map PP.toD)) (env n')) :
    dLc (icR (dCallR p_l_draw (dCons (dVar 0) (dCons (dC (.int k)) dNil)))) (gN i) ttYes (dCallR p_l_mark (dCons (dVar 0) dNil)) [i] δ P := by
  subst he
  unfold dLc
  simp only [icR]
  refine c1 (h0 n) (contR_d (x := .int k) (h0 n) ((e_l_draw _ _ _).mpr ⟨by omega, by omega, by omega, fun r r0 r1 => ?_⟩))
  obtain ⟨j, rfl⟩ : ∃ k : Nat, r = k := ⟨r.toNat, by omega⟩
  rw [hs]
  refine ⟨by omega, by omega, ?_⟩
  have := dLc_rd (δ := env (n - 1)) (di := fun δ R => R (rngD (j : Int).toNat) (fun _ => True) δ) (g := gN i) (te := dCallR p_l_mark (dCons (dVar 0) dNil)) (vs := [i]) (P := P) (xs := rngD (j : Int).toNat) (ok := fun _ => True) (fun d => ∃ l, d = (PP.mk l).toD ∧ txtL 1 3 l = true) 20 env (n - 1) (fun R' h => h) (fun _ => trivial) hf (by simp [rngD]; exact thou (by omega)) (by simp [rngD]; omega) (fun x hx m hm P hP => ?_) (fun ds n' hl hg hn => ?_)
  · exact this
  · simp only [gN]
    refine c0 (n := m) (hg m m x).1 ((e_l_mark _ _).mpr ⟨hm, fun l n' hl hn' => ?_⟩)
    exact hP _ n' _ ⟨l, rfl, hl⟩ hn' (hg m n' x).2
  · obtain ⟨ms, rfl, h3, h4⟩ := marksOf hg
    simp [rngD] at hl hn
    exact h ms n' (by omega) h4 (by omega)
theorem fInsert_ok {xs : List D} {k : Nat} {y : D} (h : xs.length < 1000) (hk : k < 1000) : fInsert xs [.d (.int (k : Nat)), .d y] = some (.non, xs.take k ++ [y] ++ xs.drop k) := by
  simp only [fInsert]
  rw [if_pos ⟨thou1 (by omega), by omega, by omega⟩]
  simp only [Int.toNat_natCast]
theorem insLa {δ : DEnv} {R : U → DEnv → Prop} {i k : Nat} {xs : List D} {y : D} (e : δ[i]? = some (some (.lst xs))) (h : xs.length < 1000) (hk : k < 1000) (q : R (.d .non) (δ.set i (some (.lst (xs.take k ++ [y] ++ xs.drop k))))) : dNil δ fun ws δ2 => mMut fInsert (.bor i) (.d (.int (k : Nat)) :: .d y :: ws) δ2 R := by
  have hp := fInsert_ok (y := y) h hk
  simp only [dNil]
  generalize hw : [U.d (.int (k : Nat)), U.d y] = ws at hp ⊢
  generalize hf : fInsert = ff at hp ⊢
  exact mutA e hp q
theorem ins_toD (ps : List PP) (p : PP) (k : Nat) : (ps.map PP.toD).take k ++ [p.toD] ++ (ps.map PP.toD).drop k = (ps.take k ++ [p] ++ ps.drop k).map PP.toD := by
  simp [List.map_take, List.map_drop]
theorem flds_ins (ps : List PP) (p : PP) (k : Nat) (f : Cs) (h : (flds ps = [f] ∧ flds [p] = []) ∨ (flds ps = [] ∧ flds [p] = [f])) : flds (ps.take k ++ [p] ++ ps.drop k) = [f] := by
  have e : flds ps = flds (ps.take k) ++ flds (ps.drop k) := by rw [← flds_app, List.take_append_drop]
  rw [flds_app, flds_app]
  rcases h with ⟨h1, h2⟩ | ⟨h1, h2⟩
  · rw [h2, List.append_nil, ← e, h1]
  · rw [e] at h1
    rw [List.append_eq_nil_iff.mp h1 |>.1, List.append_eq_nil_iff.mp h1 |>.2, h2]
    rfl
theorem ok_ins {ps : List PP} {p : PP} {k : Nat} (h : ∀ q ∈ ps, q.Ok) (hp : p.Ok) : ∀ q ∈ ps.take k ++ [p] ++ ps.drop k, q.Ok := by
  intro q hq
  rcases List.mem_append.mp hq with hq | hq
  · rcases List.mem_append.mp hq with hq | hq
    · exact h q (List.mem_of_mem_take hq)
    · rw [List.mem_singleton.mp hq]; exact hp
  · exact h q (List.mem_of_mem_drop hq)
theorem len_ins {ps : List PP} {p : PP} {k : Nat} (hk : k ≤ ps.length) : (ps.take k ++ [p] ++ ps.drop k).length = ps.length + 1 := by
  simp; omega
theorem sem_l_piece (n : Nat) (ls : Addr) (a : List D) (R : U → Nat → Prop) (h : p_l_piece n a R) : ds_l_piece { nx := fun δ => ∃ n', δ[0]? = some (some (.rdr ls n')) ∧ R (.d .non) n', rt := fun w δ => ∃ n', δ[0]? = some (some (.rdr ls n')) ∧ (∃ y, w = .d y) ∧ R w n' } (slots N_l_piece (.rdr ls n :: a.map U.d)) := by
  obtain ⟨f, rfl, hf, h2, h⟩ := h
  unfold ds_l_piece
  refine seqV ?_
  simp only [sSet]
  refine c1 (n := n) rfl (contR_d (x := .int 4) rfl ((e_l_draw _ _ _).mpr ⟨by omega, by decide, by decide, fun way w0 w1 => ?_⟩))
  dsimp only
  refine seqV ?_
  simp only [sIf, dB, d2]
  refine dVara rfl (dCa ?_)
  simp only [p2, iCmp]
  refine ifB_of (fun _ => ?_) fun _ => ?_
  · simp only [sRet]
    refine dTupa (dConsa (dVara rfl ?_))
    exact ⟨mill (by simp), _, rfl, ⟨_, rfl⟩, h (.p (.fld f)) _ hf (fun sh => .inr rfl) (by omega)⟩
  simp only [sNext]
  -- what is there
  refine seqV ?_
  simp only [sSet, dLst]
  refine dConsa (dTupa (dConsa (dVara rfl ?_)))
  refine ⟨mill (by simp), mill (by simp), ?_⟩
  refine seqCut (fun δ => ∃ (th : List PP) (n1 : Nat), δ = [some (.rdr ls n1), some (.d (.str f)), some (.d (.int way)), some (.lst (th.map PP.toD)), none, none, none] ∧ th.length ≤ 2 ∧ (∀ p ∈ th, p.Ok) ∧ flds th = [f] ∧ n ≤ n1 + 30) (fun N hN => ?_) ?_
  · simp only [sIf, dB, d2]
    refine c1 (n := n - 1) rfl (contR_d (x := .int 2) rfl ((e_l_draw _ _ _).mpr ⟨by omega, by decide, by decide, fun r r0 r1 => ?_⟩))
    refine dCa ?_
    simp only [p2, sEq]
    refine ifB_of (fun _ => ?_) fun _ => ?_
    · simp only [sExpr, dML]
      refine dLista rfl ⟨rfl, dConsa (c1 rfl (contR_d (x := .int 2) rfl ((e_l_draw _ _ _).mpr ⟨by omega, by decide, by decide, fun r2 r20 r21 => ?_⟩)))⟩
      obtain ⟨k, rfl⟩ : ∃ k : Nat, r2 = k := ⟨r2.toNat, by omega⟩
      refine dConsa (c0 rfl ((e_l_mark _ _).mpr ⟨by omega, fun m n' hm hn' => ?_⟩))
      show dNil [some (.rdr ls n'), some (.d (.str f)), some (.d (.int way)), some (.lst ([PP.fld f].map PP.toD)), none, none, none] _
      generalize hxs : [PP.fld f] = xs
      have hx1 : xs.length = 1 := by rw [← hxs]; rfl
      have hx2 : ∀ q ∈ xs, q.Ok := by rw [← hxs]; exact fun q hq => by rw [List.mem_singleton.mp hq]; exact hf
      have hx3 : flds xs = [f] := by rw [← hxs]; rfl
      refine insLa (xs := xs.map PP.toD) (k := k) (y := (PP.mk m).toD) rfl (by simp; omega) (by omega) ?_
      rw [ins_toD]
      refine hN _ ⟨xs.take k ++ [.mk m] ++ xs.drop k, n', rfl, ?_, ok_ins hx2 (show (PP.mk m).Ok from hm), flds_ins _ _ _ _ (.inl ⟨hx3, rfl⟩), by omega⟩
      rw [len_ins (by omega)]
      omega
    · refine hN _ ⟨[.fld f], _, rfl, by simp, fun q hq => by rw [List.mem_singleton.mp hq]; exact hf, rfl, by omega⟩
  rintro δ ⟨th, n1, rfl, th2, thok, thf, hn1⟩
  have thz : (th.map PP.toD).length ≤ sizeLine := by rw [List.length_map]; exact thou (by omega)
  -- on one side
  refine seqV ?_
  simp only [sIf]
  unfold dAnd
  simp only [dB, d2]
  refine dVara rfl (dCa ?_)
  simp only [p2, sEq]
  have rest : sSeq (sSet (dLc (icR (dCallR p_l_draw (dCons (dVar 0) (dCons (dC (.int 3)) dNil)))) (gN 6) ttYes (dCallR p_l_mark (dCons (dVar 0) dNil)) [6]) 4)
    (sSeq (sExpr (dML (mMut fInsert) (dVar 4) (dCons (dCallR p_l_draw (dCons (dVar 0) (dCons (d2 (p2 (iOp fun i j => i + j)) (dCB (vOne fLen) (dCons (dVar 4) dNil)) (dC (.int 1))) dNil))) (dCons (dTup (dCons (dVar 1) dNil)) dNil))))
    (sSeq (sSet (d2 vIx (dTup (dCons (dC (.str k_place)) (dCons (dC (.str k_volume)) dNil))) (dCallR p_l_draw (dCons (dVar 0) (dCons (dC (.int 2)) dNil)))) 5)
    (sSeq (sIf (dB (d2 (p2 sEq) (dCallR p_l_draw (dCons (dVar 0) (dCons (dC (.int 2)) dNil))) (dC (.int 0)))) (sRet (dTup (dCons (dC (.str k_if)) (dCons (dVar 5) (dCons (dCB (vOne fTuple) (dCons (dVar 3) dNil)) (dCons (dCB (vOne fTuple) (dCons (dVar 4) dNil)) dNil)))))) sNext)
    (sRet (dTup (dCons (dC (.str k_if)) (dCons (dVar 5) (dCons (dCB (vOne fTuple) (dCons (dVar 4) dNil)) (dCons (dIf (dB (d2 (p2 (iCmp fun i j => decide (j < i))) (dCallR p_l_draw (dCons (dVar 0) (dCons (dC (.int 3)) dNil))) (dC (.int 0)))) (dCB (vOne fTuple) (dCons (dVar 3) dNil)) (dTup dNil)) dNil)))))))))
      { nx := fun δ => ∃ n', δ[0]? = some (some (.rdr ls n')) ∧ R (.d .non) n', rt := fun w δ => ∃ n', δ[0]? = some (some (.rdr ls n')) ∧ (∃ y, w = .d y) ∧ R w n' }
      [some (.rdr ls n1), some (.d (.str f)), some (.d (.int way)), some (.lst (th.map PP.toD)), none, none, none] := by
    refine seqV ?_
    simp only [sSet]
    refine marks_rd (n := n1) (fun n => [some (.rdr ls n), some (.d (.str f)), some (.d (.int way)), some (.lst (th.map PP.toD)), none, none, none]) rfl (fun _ => rfl) (fun _ _ => rfl) (fun n => free1 rfl) (fun _ _ _ => ⟨rfl, rfl⟩) (by decide) (by decide) (by omega) fun ms n2 m1 m2 hn2 => ?_
    have m1 : ms.length < 3 := m1
    dsimp only
    refine seqV ?_
    simp only [sExpr, dML]
    refine dLista rfl ⟨rfl, dConsa (c1 rfl (opIa (lenLa rfl (dCa ?_))))⟩
    simp only [p2, iOp, List.length_map]
    rw [show ((ms.length : Nat) : Int) + 1 = ((ms.length + 1 : Nat) : Int) by omega]
    refine contR_d rfl ((e_l_draw _ _ _).mpr ⟨by omega, by omega, by omega, fun r r0 r1 => ?_⟩)
    obtain ⟨k, rfl⟩ : ∃ k : Nat, r = k := ⟨r.toNat, by omega⟩
    refine dConsa (dTupa (dConsa (dVara rfl ?_)))
    refine ⟨mill (by simp), ?_⟩
    refine insLa (xs := (ms.map PP.mk).map PP.toD) (k := k) (y := (PP.fld f).toD) rfl (by simp; omega) (by omega) ?_
    rw [ins_toD]
    obtain ⟨la, hla⟩ : ∃ la, la = (ms.map PP.mk).take k ++ [PP.fld f] ++ (ms.map PP.mk).drop k := ⟨_, rfl⟩
    have laok : ∀ q ∈ la, q.Ok := by rw [hla]; exact ok_ins m2 hf
    have lal : la.length ≤ 3 := by rw [hla, len_ins (by simp; omega)]; simp; omega
    have laf : flds la = [f] := by rw [hla]; exact flds_ins _ _ _ _ (.inr ⟨flds_mks ms, rfl⟩)
    rw [← hla]
    clear hla
    refine seqV ?_
    simp only [sSet, d2]
    refine dTupa (dConsa (dCa (dConsa (dCa ?_))))
    refine ⟨mill (by simp), ?_⟩
    refine c1 (n := n2 - 1) rfl (contR_d (x := .int 2) rfl ((e_l_draw _ _ _).mpr ⟨by omega, by decide, by decide, fun r2 r20 r21 => ?_⟩))
    obtain ⟨ask, e, hask⟩ := pick (l := [D.str k_place, D.str k_volume]) r20 r21
    obtain ⟨as, rfl, has⟩ : ∃ as, ask = .str as ∧ as ∈ [k_place, k_volume] := by
      simp only [List.mem_cons, List.not_mem_nil, or_false] at hask
      rcases hask with rfl | rfl
      · exact ⟨_, rfl, by simp⟩
      · exact ⟨_, rfl, by simp⟩
    simp only [vIx, seqU, e]
    refine seqV ?_
    simp only [sIf, dB, d2]
    refine c1 (n := n2 - 1 - 1) rfl (contR_d (x := .int 2) rfl ((e_l_draw _ _ _).mpr ⟨by omega, by decide, by decide, fun r3 r30 r31 => ?_⟩))
    refine dCa ?_
    simp only [p2, sEq]
    have one : ∀ t e : List PP, (flds t = [] ∨ flds t = [f]) → (flds e = [] ∨ flds e = [f]) → One f (.cond as t e) := fun t e ht he sh => by
      simp only [Pc.get]
      cases (if as = k_place then sh.p else sh.v)
      · exact he
      · exact ht
    refine ifB_of (fun _ => ?_) fun _ => ?_
    · simp only [sRet]
      refine dTupa (dConsa (dCa (dConsa (dVara rfl (dConsa (tupLa rfl (dConsa (tupLa rfl ?_))))))))
      exact ⟨mill (by simp), _, rfl, ⟨_, rfl⟩, h (.cond as th la) _ ⟨has, ⟨by omega, thok⟩, ⟨lal, laok⟩⟩ (one _ _ (.inr thf) (.inr laf)) (by omega)⟩
    · simp only [sNext, sRet]
      refine dTupa (dConsa (dCa (dConsa (dVara rfl (dConsa (tupLa rfl (dConsa (dIfa ?_))))))))
      simp only [dB, d2]
      refine c1 (n := n2 - 1 - 1 - 1) rfl (contR_d (x := .int 3) rfl ((e_l_draw _ _ _).mpr ⟨by omega, by decide, by decide, fun r4 r40 r41 => ?_⟩))
      refine dCa ?_
      simp only [p2, iCmp]
      refine ifB_of (fun _ => ?_) fun _ => ?_
      · refine tupLa rfl ?_
        exact ⟨mill (by simp), _, rfl, ⟨_, rfl⟩, h (.cond as la th) _ ⟨has, ⟨lal, laok⟩, ⟨by omega, thok⟩⟩ (one _ _ (.inr laf) (.inr thf)) (by omega)⟩
      · refine dTupa ⟨mill (by simp), ?_⟩
        exact ⟨mill (by simp), _, rfl, ⟨_, rfl⟩, h (.cond as la []) _ ⟨has, ⟨lal, laok⟩, ⟨by simp, fun _ h => nomatch h⟩⟩ (one _ _ (.inr laf) (.inl rfl)) (by omega)⟩
  refine ifB_of (fun _ => ?_) fun _ => by simpa using rest
  refine dVara rfl ?_
  refine dTupa (dConsa (dCa (dConsa (dCa ?_))))
  refine ⟨mill (by simp), ?_⟩
  simp only [vInS, seqU, Option.bind_some, strsOf, if_false, Bool.false_eq_true]
  refine ifB_of (fun hb => ?_) fun _ => rest
  have hfp : f ∈ [k_place, k_volume] := of_decide_eq_true hb
  refine seqV ?_
  simp only [sSet]
  refine marks_rd (n := n1) (fun n => [some (.rdr ls n), some (.d (.str f)), some (.d (.int way)), some (.lst (th.map PP.toD)), none, none, none]) rfl (fun _ => rfl) (fun _ _ => rfl) (fun n => free1 rfl) (fun _ _ _ => ⟨rfl, rfl⟩) (by decide) (by decide) (by omega) fun ms n2 m1 m2 hn2 => ?_
  have m1 : ms.length < 4 := m1
  dsimp only [sRet]
  refine dTupa (dConsa (dCa (dConsa (dVara rfl (dConsa (tupLa rfl (dConsa (tupLa rfl ?_))))))))
  refine ⟨mill (by simp), _, rfl, ⟨_, rfl⟩, h (.cond f th (ms.map PP.mk)) n2 ⟨hfp, ⟨by omega, thok⟩, ⟨by simp; omega, m2⟩⟩ (fun sh => ?_) (by omega)⟩
  simp only [Pc.get]
  cases (if f = k_place then sh.p else sh.v)
  · exact .inl (flds_mks ms)
  · exact .inr thf
section
variable {P : Program} {w : World} {K : PySem.W.Frag} {mg : Str → Option Value} {base : Heap}
theorem ok_l_piece (T : Txt K mg) (F : Df K mg "_law_piece" s_l_piece) (O_l_draw : Ok P w K mg base 2 "_law_draw" ["_law_reader_here", "_law_many"] (spR K p_l_draw)) (O_l_mark : Ok P w K mg base 4 "_law_mark" ["_law_reader_here"] (spR K p_l_mark)) : Ok P w K mg base 5 "_law_piece" ["_law_reader_here", "_law_field"] (spR K p_l_piece) := by
  obtain ⟨f, fd, F, g⟩ := F
  refine ⟨f, fd, fnR F sc_l_piece (fun n a R h => len_l_piece n a R h) (by decide) (ds := ds_l_piece) (fun cdv A outer s H E hr => ?_) sem_l_piece, g, F.kp, F.binds fun _ _ _ _ _ _ us hl => match us, hl with | [_, _], _ => rfl⟩
  exact (dss_cons (ds_set 2 (by decide) sc_l_piece.nd (dcallR O_l_draw (by exact hr.mono (by decide)) (by rfl) (da_cons (dv 0) (da_cons de_int da_nil))))
    (dss_cons (ds_if (dt_cmp op_lt (lift_iCmp (fun i j => decide (i < j))) (dv 2) de_int (nomark _)) (dss_one (ds_ret (de_tup (da_cons (dv 1) da_nil)))) dss_nil)
    (dss_cons (ds_set 3 (by decide) sc_l_piece.nd (de_lst (da_cons (de_tup (da_cons (dv 1) da_nil)) da_nil)))
    (dss_cons (ds_if (dt_cmp op_eq lift_eq (dcallR O_l_draw (by exact hr.mono (by decide)) (by rfl) (da_cons (dv 0) (da_cons de_int da_nil))) de_int (nomark _)) (dss_one (ds_expr (de_ml PySem.F.slot_list_insert PySem.F.type_list_insert mt_insert lift_insert (dv 3) (da_cons (dcallR O_l_draw (by exact hr.mono (by decide)) (by rfl) (da_cons (dv 0) (da_cons de_int da_nil))) (da_cons (dcallR O_l_mark (by exact hr.mono (by decide)) (by rfl) (da_cons (dv 0) da_nil)) da_nil))))) dss_nil)
    (dss_cons (ds_if (PW.pt (dw_and (dt_cmp op_eq lift_eq (dv 2) de_int (nomark _)) (dw_and1 (dt_cmp op_in_seq lift_inS (dv 1) (de_tup (da_cons (de_str e_place) (da_cons (de_str e_volume) da_nil))) (by rfl))))) (dss_cons (ds_setLc (own := [("_law_k", 6)]) (i := 4) (by decide) rfl sc_l_piece.nd rfl rfl (sw_true rfl rfl rfl (by decide +kernel)) (ic_rng (by rfl) T.m_range (dcallR O_l_draw (by exact hr.mono (by decide)) (by rfl) (da_cons (dv 0) (da_cons de_int da_nil)))) (blkOk_by (own := [("_law_k", 6)]) (N := N_l_piece) (sc := defScope s_l_piece) (by decide +kernel)) (fun _ _ _ _ _ => (dg_name 6 (by decide) sc_l_piece.nd)) (fun _ _ _ _ _ => dts_nil) (fun _ _ _ _ _ => (dcallR O_l_mark (by exact hr.mono (by decide)) (by rfl) (da_cons (dv 0) da_nil))))
    (dss_one (ds_ret (de_tup (da_cons (de_str e_if) (da_cons (dv 1) (da_cons (de_callTy call_tupleF lift_tuple (by rfl) T.m_tuple (by decide +kernel) (da_cons (dv 3) da_nil)) (da_cons (de_callTy call_tupleF lift_tuple (by rfl) T.m_tuple (by decide +kernel) (da_cons (dv 4) da_nil)) da_nil)))))))) dss_nil)
    (dss_cons (ds_setLc (own := [("_law_k", 6)]) (i := 4) (by decide) rfl sc_l_piece.nd rfl rfl (sw_true rfl rfl rfl (by decide +kernel)) (ic_rng (by rfl) T.m_range (dcallR O_l_draw (by exact hr.mono (by decide)) (by rfl) (da_cons (dv 0) (da_cons de_int da_nil)))) (blkOk_by (own := [("_law_k", 6)]) (N := N_l_piece) (sc := defScope s_l_piece) (by decide +kernel)) (fun _ _ _ _ _ => (dg_name 6 (by decide) sc_l_piece.nd)) (fun _ _ _ _ _ => dts_nil) (fun _ _ _ _ _ => (dcallR O_l_mark (by exact hr.mono (by decide)) (by rfl) (da_cons (dv 0) da_nil))))
    (dss_cons (ds_expr (de_ml PySem.F.slot_list_insert PySem.F.type_list_insert mt_insert lift_insert (dv 4) (da_cons (dcallR O_l_draw (by exact hr.mono (by decide)) (by rfl) (da_cons (dv 0) (da_cons (de_op op_add (lift_iOp fun i j => i + j) (de_callB call_len lift_len (by rfl) T.m_len (by decide +kernel) (da_cons (dv 4) da_nil)) de_int) da_nil))) (da_cons (de_tup (da_cons (dv 1) da_nil)) da_nil))))
    (dss_cons (ds_set 5 (by decide) sc_l_piece.nd (de_ix ix_seq lift_ix (de_tup (da_cons (de_str e_place) (da_cons (de_str e_volume) da_nil))) (dcallR O_l_draw (by exact hr.mono (by decide)) (by rfl) (da_cons (dv 0) (da_cons de_int da_nil)))))
    (dss_cons (ds_if (dt_cmp op_eq lift_eq (dcallR O_l_draw (by exact hr.mono (by decide)) (by rfl) (da_cons (dv 0) (da_cons de_int da_nil))) de_int (nomark _)) (dss_one (ds_ret (de_tup (da_cons (de_str e_if) (da_cons (dv 5) (da_cons (de_callTy call_tupleF lift_tuple (by rfl) T.m_tuple (by decide +kernel) (da_cons (dv 3) da_nil)) (da_cons (de_callTy call_tupleF lift_tuple (by rfl) T.m_tuple (by decide +kernel) (da_cons (dv 4) da_nil)) da_nil))))))) dss_nil)
    (dss_one (ds_ret (de_tup (da_cons (de_str e_if) (da_cons (dv 5) (da_cons (de_callTy call_tupleF lift_tuple (by rfl) T.m_tuple (by decide +kernel) (da_cons (dv 4) da_nil)) (da_cons (de_ifExp (dt_cmp op_gt (lift_iCmp (fun i j => decide (j < i))) (dcallR O_l_draw (by exact hr.mono (by decide)) (by rfl) (da_cons (dv 0) (da_cons de_int da_nil))) de_int (nomark _)) (de_callTy call_tupleF lift_tuple (by rfl) T.m_tuple (by decide +kernel) (da_cons (dv 3) da_nil)) (de_tup da_nil)) da_nil))))))))))))))))
end
end Ib
set_option Elab.async false
set_option linter.all false
set_option autoImplicit false
set_option maxRecDepth 100000
set_option maxHeartbeats 4000000
/-! IbM20: the law's cut and key. -/
namespace Ib
open PySem PySem.Spec PyProof.Rows L2 TL PySem.W
variable [Tabl]
def p_l_cut : PSp := fun a R => ∃ w ts, a = [.str w, .tup (ts.map D.str)] ∧ w.length ≤ 1000 ∧ (∀ c ∈ w, [c] ∈ ts) ∧ R (.d (.tup (natsD (cutL ts w))))
@[simp] theorem e_l_cut (w : Cs) (ts : List Cs) (R : U → Prop) : p_l_cut [.str w, .tup (ts.map D.str)] R ↔ w.length ≤ 1000 ∧ (∀ c ∈ w, [c] ∈ ts) ∧ R (.d (.tup (natsD (cutL ts w)))) := by
  unfold p_l_cut
  constructor
  · rintro ⟨w', ts', e, h⟩
    simp only [List.cons.injEq, D.str.injEq, D.tup.injEq, and_true] at e
    rw [e.1, strs_inj e.2]
    exact h
  · exact fun h => ⟨w, ts, rfl, h⟩
theorem len_l_cut (a : List D) (R : U → Prop) (h : p_l_cut a R) : a.length = 2 := by
  obtain ⟨x0, x1, rfl, _⟩ := h
  rfl
def p_l_key : PSp := fun a R => ∃ (b : Bk) (ts : List Cs), a = [b.toD, .tup (ts.map D.str)] ∧ Sm b.toD ∧ b.Ok ∧ LetsOk ts ∧ R (.d (keyD ts b))
@[simp] theorem e_l_key (b : Bk) (ts : List Cs) (R : U → Prop) : p_l_key [b.toD, .tup (ts.map D.str)] R ↔ Sm b.toD ∧ b.Ok ∧ LetsOk ts ∧ R (.d (keyD ts b)) := e_key_by b ts R
theorem len_l_key (a : List D) (R : U → Prop) (h : p_l_key a R) : a.length = 2 := by
  obtain ⟨x0, x1, rfl, _⟩ := h
  rfl
def ds_l_cut : DS :=
    (sSeq (sSet (dLst dNil) 2)
    (sSeq (sSet (dC (.int 0)) 3)
    (sSeq (sFor (iR (dCB (vOne fLen) (dCons (dVar 0) dNil))) (gN 4) (sIf (dB (d2 (p2 (iCmp fun i j => decide (i < j))) (dVar 3) (dCB (vOne fLen) (dCons (dVar 0) dNil)))) (sSeq (sSet (dIf (dAnd (dB (d2 (vInS false) (dSl vSlS (dVar 0) (dPart (dVar 3)) (dPart (d2 (p2 (iOp fun i j => i + j)) (dVar 3) (dC (.int 2))))) (dVar 1))) (dB (d2 (p2 (iCmp fun i j => decide (i ≤ j))) (d2 (p2 (iOp fun i j => i + j)) (dVar 3) (dC (.int 2))) (dCB (vOne fLen) (dCons (dVar 0) dNil))))) (dC (.int 2)) (dC (.int 1))) 5)
    (sSeq (sExpr (dML (mMut fAppend) (dVar 2) (dCons (dIndexT (dVar 1) (dSl vSlS (dVar 0) (dPart (dVar 3)) (dPart (d2 (p2 (iOp fun i j => i + j)) (dVar 3) (dVar 5))))) dNil)))
    (sSet (d2 (p2 (iOp fun i j => i + j)) (dVar 3) (dVar 5)) 3))) sNext))
    (sRet (dCB (vOne fTuple) (dCons (dVar 2) dNil))))))

def ds_l_key : DS :=
    (sSeq (sSet (dCB (vOne fTuple) (dCons (dLc (icT (d2 vIx (dVar 0) (dC (.int 0)))) (gN 5) ttYes (dTup (dCons (dCallP p_l_cut (dCons (dMS mLower (d2 vIx (dVar 5) (dC (.int 0))) dNil) (dCons (dVar 1) dNil))) (dCons (d2 vIx (dVar 5) (dC (.int 1))) dNil))) [5]) dNil)) 2)
    (sSeq (sSet (dCB (vOne fTuple) (dCons (dLc (icL (dMS mSplit (dMS mLower (d2 vIx (dVar 0) (dC (.int 2))) dNil) (dCons (dC (.str k_x32)) dNil))) (gN 6) ttYes (dCallP p_l_cut (dCons (dVar 6) (dCons (dVar 1) dNil))) [6]) dNil)) 3)
    (sSeq (sSet (dIf (dB (d2 (p2 nIs) (d2 vIx (dVar 0) (dC (.int 3))) (dC .non))) (dTup dNil) (dTup (dCons (dCallP p_l_cut (dCons (dMS mLower (d2 vIx (dVar 0) (dC (.int 3))) dNil) (dCons (dVar 1) dNil))) dNil))) 4)
    (sRet (dTup (dCons (dVar 2) (dCons (d2 vIx (dVar 0) (dC (.int 1))) (dCons (dVar 3) (dCons (dVar 4) (dCons (dIf (dB (d2 (p2 nIs) (d2 vIx (dVar 0) (dC (.int 4))) (dC .non))) (dTup dNil) (dTup (dCons (d2 vIx (dVar 0) (dC (.int 4))) dNil))) dNil))))))))))
theorem sem_l_cut (a : List D) (R : U → Prop) (h : p_l_cut a R) : ds_l_cut { nx := fun _ => R (.d .non), rt := resR R } (slots N_l_cut (a.map U.d)) := by
  obtain ⟨s, ts, rfl, h1, h3, h⟩ := h
  have szl := sizeLine_eq
  unfold ds_l_cut
  refine seqV ?_
  simp only [sSet, dLst]
  refine ⟨mill (by simp), ?_⟩
  refine seqV (dCa ?_)
  dsimp only
  refine seqV ?_
  unfold sFor
  simp only [iR]
  refine dConsa (dVara rfl ⟨thou h1, ?_⟩)
  refine ⟨by omega, by omega, fun i δ => ∃ (at_ : Nat) (acc : List Nat) (q4 q5 : Option U), i ≤ s.length ∧ at_ ≤ s.length ∧ (i ≤ at_ ∨ at_ = s.length) ∧ acc.length ≤ i ∧ δ = [some (.d (.str s)), some (.d (.tup (ts.map D.str))), some (.lst (natsD acc)), some (.d (.int (at_ : Nat))), q4, q5] ∧ acc ++ cutL ts (s.drop at_) = cutL ts s, ⟨0, [], none, none, Nat.zero_le _, Nat.zero_le _, .inl (Nat.zero_le _), Nat.zero_le _, rfl, rfl⟩, ?_, ?_⟩
  · rintro i x δ hx ⟨at_, acc, q4, q5, hi, ha, hia, hc, rfl, he⟩
    have hlt : i < s.length := by
      have := (List.getElem?_eq_some_iff.mp hx).1
      simpa [rngD] using this
    simp only [gN, sIf, dB, d2]
    refine dVara rfl ?_
    refine dConsa (dVara rfl ⟨thou h1, ?_⟩)
    simp only [p2, iCmp]
    refine ifB_of (fun e => ?_) fun e => ?_
    · have hlt2 : at_ < s.length := by have := of_decide_eq_true e; omega
      have ne : s.drop at_ ≠ [] := by
        intro z
        have := congrArg List.length z
        simp at this
        omega
      have hd := headL_mem ne fun c hc => h3 c (List.mem_of_mem_drop hc)
      have ecut := cutL_cons (ts := ts) ne
      have hix := ixOf_mem hd
      have app : natsD acc ++ [D.int (ixOf ts (headL ts (s.drop at_)) : Nat)] = natsD (acc ++ [ixOf ts (headL ts (s.drop at_))]) := by simp [natsD]
      have len : (natsD acc).length < sizeLine := by simp [natsD]; omega
      have step : acc ++ [ixOf ts (headL ts (s.drop at_))] ++ cutL ts (s.drop (at_ + (headL ts (s.drop at_)).length)) = cutL ts s := by
        rw [← he, ecut, List.append_assoc, List.drop_drop]
        rfl
      have e2 : cutD s (some (at_ : Int)) (some ((at_ : Int) + 2)) = (s.drop at_).take 2 := by
        have := cutD_mid s at_ (at_ + 2)
        rw [show at_ + 2 - at_ = 2 by omega] at this
        rw [← this]
        rfl
      -- how many signs
      refine seqCut (fun δ => ∃ k : Nat, (1 ≤ k ∧ k ≤ 2) ∧ (s.drop at_).take k = headL ts (s.drop at_) ∧ at_ + k ≤ s.length ∧ δ = [some (.d (.str s)), some (.d (.tup (ts.map D.str))), some (.lst (natsD acc)), some (.d (.int (at_ : Nat))), some (.d x), some (.d (.int (k : Nat)))]) (fun N hN => ?_) ?_
      · simp only [sSet]
        refine dIfa ?_
        unfold dAnd
        simp [strsOf_map, e2]
        refine ⟨thou h1, ?_⟩
        refine ifB_of (fun e4 => ?_) fun e4 => ?_
        · have hin : (s.drop at_).take 2 ∈ ts := of_decide_eq_true e4
          have hh : headL ts (s.drop at_) = (s.drop at_).take 2 := if_pos hin
          refine ⟨thou h1, ifB_of (fun e5 => ?_) fun e5 => ?_⟩
          · have e5 : at_ + 2 ≤ s.length := by have := of_decide_eq_true e5; omega
            exact hN _ ⟨2, ⟨by omega, by omega⟩, hh.symm, e5, rfl⟩
          · have e5 : ¬ at_ + 2 ≤ s.length := by have := of_decide_eq_false e5; omega
            have hh1 : (s.drop at_).take 1 = headL ts (s.drop at_) := by
              rw [hh, List.take_of_length_le (by rw [List.length_drop]; omega), List.take_of_length_le (by rw [List.length_drop]; omega)]
            exact hN _ ⟨1, ⟨by omega, by omega⟩, hh1, by omega, rfl⟩
        · have hin : (s.drop at_).take 2 ∉ ts := of_decide_eq_false e4
          exact hN _ ⟨1, ⟨by omega, by omega⟩, (if_neg hin).symm, by omega, rfl⟩
      · rintro δ ⟨k, ⟨k1, k2⟩, hk, hkl, rfl⟩
        have e3 : cutD s (some (at_ : Int)) (some ((at_ : Int) + (k : Int))) = (s.drop at_).take k := by
          have := cutD_mid s at_ (at_ + k)
          rw [show at_ + k - at_ = k by omega] at this
          rw [← this]
          congr 2
        have hkk : (headL ts (s.drop at_)).length = k := by
          rw [← hk, List.length_take, List.length_drop]
          omega
        rw [hkk] at step
        refine seqV ?_
        simp only [sExpr, dML]
        refine dLista rfl ⟨rfl, dConsa ?_⟩
        simp [strsOf_map, e3, hk, hix, if_pos len, app]
        exact ⟨thou h1, hlt, at_ + k, hkl, by omega, _, by rw [List.length_append, List.length_singleton]; omega, ⟨rfl, by omega⟩, step⟩
    · have hlt2 : at_ = s.length := by have := of_decide_eq_false e; omega
      exact ⟨at_, acc, _, _, hlt, ha, .inr hlt2, by omega, rfl, he⟩
  · rintro δ ⟨at_, acc, q4, q5, hi, ha, hia, hc, rfl, he⟩
    have hl : (rngD (s.length : Int).toNat).length = s.length := by simp [rngD]
    rw [hl] at hia
    have e3 : at_ = s.length := by omega
    subst e3
    rw [List.drop_length, show cutL ts [] = [] from rfl, List.append_nil] at he
    rw [he]
    exact h
theorem sp1_map {g : Nat → Nat} : ∀ {l : Cs}, (∀ c ∈ l, g c = 32 ↔ c = 32) → sp1 (l.map g) = (sp1 l).map fun w => w.map g
  | [], _ => rfl
  | c :: r, h => by
    have ih := sp1_map (g := g) (l := r) fun d hd => h d (by simp [hd])
    obtain ⟨w, ws, e⟩ := sp1_ne r
    by_cases hc : c = 32
    · simp only [List.map_cons, sp1, if_pos hc, if_pos ((h c (by simp)).mpr hc), ih, List.map_nil]
    · simp only [List.map_cons, sp1, if_neg hc, if_neg (fun z => hc ((h c (by simp)).mp z)), ih, e]
theorem lo1_blank : ∀ c, c < 128 → (PyProof.Rows.lo1 c = 32 ↔ c = 32) := by decide
theorem sp1_mem_of : ∀ {l : Cs} {c : Nat}, c ∈ l → c ≠ 32 → ∃ w ∈ sp1 l, c ∈ w
  | d :: r, c, hc, hn => by
    obtain ⟨w, ws, e⟩ := sp1_ne r
    rcases List.mem_cons.mp hc with rfl | hc
    · simp only [sp1, if_neg hn, e]
      exact ⟨c :: w, by simp, by simp⟩
    · obtain ⟨u, hu, hcu⟩ := sp1_mem_of hc hn
      by_cases hd : d = 32
      · simp only [sp1, if_pos hd]
        exact ⟨u, List.mem_cons_of_mem _ hu, hcu⟩
      · simp only [sp1, if_neg hd, e]
        rw [e] at hu
        rcases List.mem_cons.mp hu with rfl | hu
        · exact ⟨d :: u, by simp, by simp [hcu]⟩
        · exact ⟨u, by simp [hu], hcu⟩
theorem fam_lt {l : Cs} (h : isFamL l = true) : ∀ c ∈ l, c < 128 := by
  obtain ⟨c, r, rfl, h1, h2, _⟩ := low_fam h
  intro d hd
  rcases List.mem_cons.mp hd with rfl | hd
  · exact caps_lt _ h1
  · exact small_lt d (h2 d hd)
theorem tit_word {l : Cs} (h : isTitL l = true) : ∀ w ∈ sp1 l, ∀ c ∈ w, c < 128 := by
  unfold isTitL at h
  intro w hw
  obtain ⟨w0, ws, e⟩ := sp1_ne l
  rw [e] at h hw
  simp only [Bool.and_eq_true, List.all_eq_true] at h
  rcases List.mem_cons.mp hw with rfl | hw
  · exact fam_lt h.1
  · exact fun c hc => small_lt c (allOf_iff.mp (h.2 w hw).2 c hc)
theorem tit_lt {l : Cs} (h : isTitL l = true) : ∀ c ∈ l, c < 128 := fun c hc => by
  by_cases e : c = 32
  · omega
  · obtain ⟨w, hw, hcw⟩ := sp1_mem_of hc e
    exact tit_word h w hw c hcw
theorem low_tit {l : Cs} (h : isTitL l = true) : sp1 (lowC l) = (sp1 l).map lowC ∧ (lowC l).length = l.length := by
  have hl := tit_lt h
  rw [lowC_eq hl]
  refine ⟨?_, by simp⟩
  rw [sp1_map fun c hc => lo1_blank c (hl c hc)]
  exact List.map_congr_left fun w hw => (lowC_eq (tit_word h w hw)).symm
def keyN2 (ts : List Cs) : D → D
  | .tup [.str f, g] => .tup [cutW ts f, g]
  | _ => .non
def keyX2 (ts : List Cs) : D → D
  | .str f => .tup (natsD (cutL ts f))
  | _ => .non
theorem sem_l_key (a : List D) (R : U → Prop) (h : p_l_key a R) : ds_l_key { nx := fun _ => R (.d .non), rt := resR R } (slots N_l_key (a.map U.d)) := by
  obtain ⟨b, ts, rfl, hs, hb, ht, h⟩ := h
  obtain ⟨s1, s2, s3, s4⟩ := Sm_bk hs
  have all := ht.all
  have szl := sizeLine_eq
  obtain ⟨ns, y, t, p, v⟩ := b
  simp only at s1 s2 s3 s4
  simp only [ds_l_key, sSeq, sSet]
  refine tupLc (xs := ns.map nmD) (ok := fun _ => True) (keyN2 ts) (fun R' h => by simpa [Bk.toD] using h) trivial (free1 rfl) (by rw [List.length_map]; exact thou s1) (fun x hx P hP => ?_) ?_
  · obtain ⟨n, hn, rfl⟩ := List.mem_map.mp hx
    obtain ⟨f1, f2⟩ := low_fam_ok (hb.fam n hn).1
    have := s2 n hn
    simp [nmD]
    refine ⟨by omega, by omega, fun c hc => all c (f2 c hc), by omega, hP _ rfl⟩
  have e1 : (ns.map nmD).map (keyN2 ts) = ns.map fun n => .tup [cutW ts n.1, .str n.2] := by
    rw [List.map_map]
    rfl
  rw [e1]
  dsimp only
  obtain ⟨q1, q2⟩ := low_tit hb.ti
  simp only at q1 q2
  have wl := sp1_len t
  have wm := sp1_mem t
  refine tupLc (xs := ((sp1 t).map lowC).map D.str) (ok := fun _ => True) (keyX2 ts) (fun R' h => ?_) trivial (free1 rfl) (by rw [List.length_map, List.length_map]; exact mill (by omega)) (fun x hx P hP => ?_) ?_
  · simp [Bk.toD]
    refine ⟨by omega, by omega, ?_⟩
    rw [splitC_eq, q1]
    exact h
  · obtain ⟨u, hu, rfl⟩ := List.mem_map.mp hx
    obtain ⟨w, hw, rfl⟩ := List.mem_map.mp hu
    have f := title_words hb.ti w hw
    have := wm w hw
    simp
    exact ⟨by omega, fun c hc => all c (f.2 c hc), hP _ rfl⟩
  have e2 : (((sp1 t).map lowC).map D.str).map (keyX2 ts) = (sp1 t).map (cutW ts) := by
    rw [List.map_map, List.map_map]
    rfl
  rw [e2]
  have z5 : 5 ≤ sizeLine := by omega
  have z1 : 1 ≤ sizeLine := by omega
  cases p with
  | none => cases v <;> simp [Bk.toD, opS, opI, z5, z1] <;> exact h
  | some p =>
    have f := low_fam_ok (hb.pl p rfl)
    have := s4 p rfl
    cases v <;> simp [Bk.toD, opS, opI, z5, z1] <;> exact ⟨by omega, by omega, fun c hc => all c (f.2 c hc), h⟩
section
variable {P : Program} {w : World} {K : PySem.W.Frag} {mg : Str → Option Value} {base : Heap}
theorem ok_l_cut (T : Txt K mg) (F : Df K mg "_law_cut" s_l_cut) : Ok P w K mg base 1 "_law_cut" ["_law_word", "_law_letters_here"] (spP K p_l_cut) := by
  obtain ⟨f, fd, F, g⟩ := F
  refine ⟨f, fd, fnP F sc_l_cut (fun a R h => len_l_cut a R h) (by decide) (ds := ds_l_cut) (fun cdv A outer s H E hr => ?_) sem_l_cut, g, F.kp, F.binds fun _ _ _ _ _ _ us hl => match us, hl with | [_, _], _ => rfl⟩
  exact (dss_cons (ds_set 2 (by decide) sc_l_cut.nd (de_lst da_nil))
    (dss_cons (ds_set 3 (by decide) sc_l_cut.nd de_int)
    (dss_cons (ds_for PassesOwn.never rfl (di_rng (by rfl) T.m_range (de_callB call_len lift_len (by rfl) T.m_len (by decide +kernel) (da_cons (dv 0) da_nil))) (dg_name 4 (by decide) sc_l_cut.nd) (dss_one (ds_if (dt_cmp op_lt (lift_iCmp (fun i j => decide (i < j))) (dv 3) (de_callB call_len lift_len (by rfl) T.m_len (by decide +kernel) (da_cons (dv 0) da_nil)) (nomark _)) (dss_cons (ds_set 5 (by decide) sc_l_cut.nd (de_ifExp (PW.pt (dw_and (dt_cmp op_in_seq lift_inS (de_slice sl_str lift_slS (dv 0) (do_some (dv 3)) (do_some (de_op op_add (lift_iOp fun i j => i + j) (dv 3) de_int))) (dv 1) (by rfl)) (dw_and1 (dt_cmp op_le (lift_iCmp (fun i j => decide (i ≤ j))) (de_op op_add (lift_iOp fun i j => i + j) (dv 3) de_int) (de_callB call_len lift_len (by rfl) T.m_len (by decide +kernel) (da_cons (dv 0) da_nil)) (nomark _))))) de_int de_int))
    (dss_cons (ds_expr (de_ml PySem.F.slot_list_append PySem.F.type_list_append mt_append lift_append (dv 2) (da_cons (de_indexT (dv 1) (de_slice sl_str lift_slS (dv 0) (do_some (dv 3)) (do_some (de_op op_add (lift_iOp fun i j => i + j) (dv 3) (dv 5))))) da_nil)))
    (dss_one (ds_set 3 (by decide) sc_l_cut.nd (de_op op_add (lift_iOp fun i j => i + j) (dv 3) (dv 5)))))) dss_nil)))
    (dss_one (ds_ret (de_callTy call_tupleF lift_tuple (by rfl) T.m_tuple (by decide +kernel) (da_cons (dv 2) da_nil)))))))

theorem ok_l_key (T : Txt K mg) (F : Df K mg "_law_key" s_l_key) (O_l_cut : Ok P w K mg base 1 "_law_cut" ["_law_word", "_law_letters_here"] (spP K p_l_cut)) : Ok P w K mg base 2 "_law_key" ["_law_book_here", "_law_letters_here"] (spP K p_l_key) := by
  obtain ⟨f, fd, F, g⟩ := F
  refine ⟨f, fd, fnP F sc_l_key (fun a R h => len_l_key a R h) (by decide) (ds := ds_l_key) (fun cdv A outer s H E hr => ?_) sem_l_key, g, F.kp, F.binds fun _ _ _ _ _ _ us hl => match us, hl with | [_, _], _ => rfl⟩
  exact (dss_cons (ds_set 2 (by decide) sc_l_key.nd (de_callTy call_tupleF lift_tuple (by rfl) T.m_tuple (by decide +kernel) (da_cons (de_lc (own := [("_law_name", 5)]) rfl sc_l_key.nd (ic_tup (de_ix ix_seq lift_ix (dv 0) de_int)) (blkOk_by (own := [("_law_name", 5)]) (N := N_l_key) (sc := defScope s_l_key) (by decide +kernel)) (fun _ _ _ _ _ => (dg_name 5 (by decide) sc_l_key.nd)) (fun _ _ _ _ _ => dts_nil) (fun _ _ _ _ _ => (de_tup (da_cons (dcall O_l_cut (by exact hr.mono (by decide)) (by rfl) (da_cons (de_ms0 PySem.F.plainAttrs_str PySem.F.slot_str_lower PySem.F.type_str_lower mt_lower lift_lower (de_ix ix_seq lift_ix (dv 5) de_int)) (da_cons (dv 1) da_nil))) (da_cons (de_ix ix_seq lift_ix (dv 5) de_int) da_nil))))) da_nil)))
    (dss_cons (ds_set 3 (by decide) sc_l_key.nd (de_callTy call_tupleF lift_tuple (by rfl) T.m_tuple (by decide +kernel) (da_cons (de_lc (own := [("_law_word", 6)]) rfl sc_l_key.nd (ic_lst (de_ms PySem.F.plainAttrs_str PySem.F.slot_str_split PySem.F.type_str_split mt_split lift_split (de_ms0 PySem.F.plainAttrs_str PySem.F.slot_str_lower PySem.F.type_str_lower mt_lower lift_lower (de_ix ix_seq lift_ix (dv 0) de_int)) (da_cons (de_str e_x32) da_nil))) (blkOk_by (own := [("_law_word", 6)]) (N := N_l_key) (sc := defScope s_l_key) (by decide +kernel)) (fun _ _ _ _ _ => (dg_name 6 (by decide) sc_l_key.nd)) (fun _ _ _ _ _ => dts_nil) (fun _ _ _ _ _ => (dcall O_l_cut (by exact hr.mono (by decide)) (by rfl) (da_cons (dv 6) (da_cons (dv 1) da_nil))))) da_nil)))
    (dss_cons (ds_set 4 (by decide) sc_l_key.nd (de_ifExp (dt_cmp op_isN lift_isN (de_ix ix_seq lift_ix (dv 0) de_int) de_non (nomark _)) (de_tup da_nil) (de_tup (da_cons (dcall O_l_cut (by exact hr.mono (by decide)) (by rfl) (da_cons (de_ms0 PySem.F.plainAttrs_str PySem.F.slot_str_lower PySem.F.type_str_lower mt_lower lift_lower (de_ix ix_seq lift_ix (dv 0) de_int)) (da_cons (dv 1) da_nil))) da_nil))))
    (dss_one (ds_ret (de_tup (da_cons (dv 2) (da_cons (de_ix ix_seq lift_ix (dv 0) de_int) (da_cons (dv 3) (da_cons (dv 4) (da_cons (de_ifExp (dt_cmp op_isN lift_isN (de_ix ix_seq lift_ix (dv 0) de_int) de_non (nomark _)) (de_tup da_nil) (de_tup (da_cons (de_ix ix_seq lift_ix (dv 0) de_int) da_nil))) da_nil)))))))))))
end
end Ib
set_option Elab.async false
set_option linter.all false
set_option autoImplicit false
set_option maxRecDepth 100000
set_option maxHeartbeats 4000000
/-! IbN1: keys are unlike for unlike books, and they are in a strict order; a book's place among them. -/
namespace Ib
open PySem PySem.Spec PyProof.Rows L2 TL PySem.W
variable [Tabl]
theorem drop_shorter {w : Cs} {k : Nat} (h : 1 ≤ k) (hw : w ≠ []) : (w.drop k).length < w.length := by
  cases w with
  | nil => exact absurd rfl hw
  | cons c r => simp; omega
theorem headL_take (ts : List Cs) (w : Cs) : headL ts w = w.take (headL ts w).length := by
  unfold headL
  split
  · rw [List.length_take]
    rcases Nat.le_total 2 w.length with h | h
    · rw [Nat.min_eq_left h]
    · rw [Nat.min_eq_right h, List.take_of_length_le h, List.take_of_length_le (Nat.le_refl _)]
  · rw [List.length_take]
    rcases Nat.le_total 1 w.length with h | h
    · rw [Nat.min_eq_left h]
    · rw [Nat.min_eq_right h, List.take_of_length_le h, List.take_of_length_le (Nat.le_refl _)]
theorem headL_pos (ts : List Cs) {w : Cs} (h : w ≠ []) : 1 ≤ (headL ts w).length := by
  cases w with
  | nil => exact absurd rfl h
  | cons c r => unfold headL; split <;> simp
/-- what a row of numbers was cut from -/
def dec (ts : List Cs) (l : List Nat) : Cs := (l.map fun i => ts.getD i []).flatten
theorem dec_cut (ts : List Cs) : ∀ (n : Nat) (w : Cs), w.length ≤ n → (∀ c ∈ w, [c] ∈ ts) → dec ts (cutL ts w) = w
  | 0, w, h, _ => by
    rw [List.length_eq_zero_iff.mp (Nat.le_zero.mp h)]
    rfl
  | n + 1, w, h, hc => by
    by_cases hw : w = []
    · subst hw; rfl
    · have hp := headL_pos ts hw
      have hs := drop_shorter hp hw
      have ih := dec_cut ts n (w.drop (headL ts w).length) (by omega) fun c hc' => hc c (List.mem_of_mem_drop hc')
      rw [cutL_cons hw]
      show (ts.getD (ixOf ts (headL ts w)) [] :: (cutL ts (w.drop (headL ts w).length)).map fun i => ts.getD i []).flatten = w
      rw [List.flatten_cons, show ((cutL ts (w.drop (headL ts w).length)).map fun i => ts.getD i []).flatten = w.drop (headL ts w).length from ih]
      have e := (fstIx_some (ixOf_mem (headL_mem hw hc))).1
      rw [List.getD_eq_getElem?_getD, e, Option.getD_some]
      conv => lhs; lhs; rw [headL_take]
      exact List.take_append_drop _ _
theorem cutL_inj {ts : List Cs} {u v : Cs} (hu : ∀ c ∈ u, [c] ∈ ts) (hv : ∀ c ∈ v, [c] ∈ ts) (h : cutL ts u = cutL ts v) : u = v := by
  rw [← dec_cut ts _ u (Nat.le_refl _) hu, ← dec_cut ts _ v (Nat.le_refl _) hv, h]
theorem natsD_inj : ∀ {a b : List Nat}, natsD a = natsD b → a = b
  | [], [], _ => rfl
  | [], _ :: _, h => by simp [natsD] at h
  | _ :: _, [], h => by simp [natsD] at h
  | x :: a, y :: b, h => by
    simp only [natsD, List.map_cons, List.cons.injEq, D.int.injEq] at h
    rw [Int.ofNat.inj h.1, natsD_inj (a := a) (b := b) h.2]
theorem lo1_caps : ∀ c ∈ CAPS, ∀ d ∈ CAPS, PyProof.Rows.lo1 c = PyProof.Rows.lo1 d → c = d := by decide +kernel
theorem cutW_low {ts : List Cs} (ht : LetsOk ts) {a b : Cs} (ha : ∀ c ∈ lowC a, c ∈ SMALL) (hb : ∀ c ∈ lowC b, c ∈ SMALL) (h : cutW ts a = cutW ts b) : lowC a = lowC b := by
  simp only [cutW, D.tup.injEq] at h
  exact cutL_inj (fun c hc => ht.all c (ha c hc)) (fun c hc => ht.all c (hb c hc)) (natsD_inj h)
theorem cutW_fam {ts : List Cs} (ht : LetsOk ts) {a b : Cs} (ha : isFamL a = true) (hb : isFamL b = true) (h : cutW ts a = cutW ts b) : a = b := by
  have e := cutW_low ht (low_fam_ok ha).2 (low_fam_ok hb).2 h
  obtain ⟨c, r, rfl, c1, c2, c3⟩ := low_fam ha
  obtain ⟨d, s, rfl, d1, d2, d3⟩ := low_fam hb
  rw [c3, d3] at e
  simp only [List.cons.injEq] at e
  rw [lo1_caps c c1 d d1 e.1, e.2]
theorem cutW_small {ts : List Cs} (ht : LetsOk ts) {a b : Cs} (ha : ∀ c ∈ a, c ∈ SMALL) (hb : ∀ c ∈ b, c ∈ SMALL) (h : cutW ts a = cutW ts b) : a = b := by
  have e := cutW_low ht (by rw [low_small ha]; exact ha) (by rw [low_small hb]; exact hb) h
  rwa [low_small ha, low_small hb] at e
theorem sp1_inj : ∀ {a b : Cs}, sp1 a = sp1 b → a = b
  | [], [], _ => rfl
  | [], d :: s, h => by
    obtain ⟨w, ws, e⟩ := sp1_ne s
    by_cases hd : d = 32
    · simp [sp1, hd, e] at h
    · simp [sp1, hd, e] at h
  | c :: r, [], h => by
    obtain ⟨w, ws, e⟩ := sp1_ne r
    by_cases hd : c = 32
    · simp [sp1, hd, e] at h
    · simp [sp1, hd, e] at h
  | c :: r, d :: s, h => by
    obtain ⟨w, ws, e⟩ := sp1_ne r
    obtain ⟨u, us, f⟩ := sp1_ne s
    by_cases hc : c = 32
    · by_cases hd : d = 32
      · simp only [sp1, if_pos hc, if_pos hd, List.cons.injEq, true_and] at h
        rw [hc, hd, sp1_inj h]
      · simp [sp1, hc, hd, f] at h
    · by_cases hd : d = 32
      · simp [sp1, hc, hd, e] at h
      · simp only [sp1, if_neg hc, if_neg hd, e, f, List.cons.injEq] at h
        rw [h.1.1, sp1_inj (a := r) (b := s) (by rw [e, f, h.1.2, h.2])]
theorem map_injOn {α β : Type} {f : α → β} : ∀ {xs ys : List α}, (∀ x ∈ xs, ∀ y ∈ ys, f x = f y → x = y) → xs.map f = ys.map f → xs = ys
  | [], [], _, _ => rfl
  | [], _ :: _, _, e => by simp at e
  | _ :: _, [], _, e => by simp at e
  | x :: xs, y :: ys, h, e => by
    simp only [List.map_cons, List.cons.injEq] at e
    rw [h x (by simp) y (by simp) e.1, map_injOn (fun a ha b hb => h a (by simp [ha]) b (by simp [hb])) e.2]
theorem tit_words {l : Cs} (h : isTitL l = true) : ∃ w ws, sp1 l = w :: ws ∧ isFamL w = true ∧ ∀ u ∈ ws, ∀ c ∈ u, c ∈ SMALL := by
  unfold isTitL at h
  obtain ⟨w, ws, e⟩ := sp1_ne l
  rw [e] at h
  simp only [Bool.and_eq_true, List.all_eq_true] at h
  exact ⟨w, ws, e, h.1, fun u hu => allOf_iff.mp (h.2 u hu).2⟩
theorem keyD_inj {ts : List Cs} (ht : LetsOk ts) {a b : Bk} (ha : a.Ok) (hb : b.Ok) (h : keyD ts a = keyD ts b) : a = b := by
  obtain ⟨ns, y, t, p, v⟩ := a
  obtain ⟨ns', y', t', p', v'⟩ := b
  simp only [keyD, D.tup.injEq, List.cons.injEq, D.int.injEq, and_true] at h
  obtain ⟨h1, h2, h3, h4, h5⟩ := h
  have e1 : ns = ns' := map_injOn (fun n hn m hm e => by
    simp only [D.tup.injEq, List.cons.injEq, D.str.injEq, and_true] at e
    exact Prod.ext (cutW_fam ht (ha.fam n hn).1 (hb.fam m hm).1 e.1) e.2) h1
  have e3 : t = t' := by
    obtain ⟨w, ws, q1, q2, q3⟩ := tit_words ha.ti
    obtain ⟨u, us, r1, r2, r3⟩ := tit_words hb.ti
    simp only at q1 r1
    rw [q1, r1] at h3
    simp only [List.map_cons, List.cons.injEq] at h3
    refine sp1_inj ?_
    rw [q1, r1, cutW_fam ht q2 r2 h3.1, map_injOn (fun x hx z hz e => cutW_small ht (q3 x hx) (r3 z hz) e) h3.2]
  have e4 : p = p' := by
    cases p <;> cases p' <;> simp only [keyP, D.tup.injEq, List.cons.injEq, and_true] at h4
    · rfl
    · cases h4
    · cases h4
    · rw [cutW_fam ht (ha.pl _ rfl) (hb.pl _ rfl) h4]
  have e5 : v = v' := by
    cases v <;> cases v' <;> simp only [keyV, D.tup.injEq, List.cons.injEq, D.int.injEq, and_true] at h5
    · rfl
    · cases h5
    · cases h5
    · rw [h5]
  rw [e1, h2, e3, e4, e5]
mutual
theorem eqv_eq : ∀ (a b : D), noB a = true → noB b = true → PyData.eqv a.pd b.pd = true → a = b
  | .non, b, _, hb, e => by cases b <;> simp_all [D.pd, PyData.eqv, noB]
  | .bl x, b, ha, hb, e => by simp [noB] at ha
  | .int i, b, _, hb, e => by cases b <;> simp_all [D.pd, PyData.eqv, noB]
  | .str x, b, _, hb, e => by
    cases b with
    | str y =>
      simp only [D.pd, PyData.eqv, decide_eq_true_eq, beq_iff_eq] at e
      rw [S_inj e]
    | _ => simp_all [D.pd, PyData.eqv, noB]
  | .tup xs, b, ha, hb, e => by
    cases b with
    | tup ys =>
      simp only [D.pd, PyData.eqv] at e
      rw [eqvs_eq xs ys (by simpa [noB] using ha) (by simpa [noB] using hb) e]
    | _ => simp_all [D.pd, PyData.eqv, noB]
theorem eqvs_eq : ∀ (a b : List D), noBs a = true → noBs b = true → PyData.eqvAll (D.pds a) (D.pds b) = true → a = b
  | [], b, _, hb, e => by
    cases b with
    | nil => rfl
    | cons y ys => simp [D.pds, PyData.eqvAll] at e
  | x :: xs, b, ha, hb, e => by
    cases b with
    | nil => simp [D.pds, PyData.eqvAll] at e
    | cons y ys =>
      simp only [D.pds, PyData.eqvAll, Bool.and_eq_true] at e
      simp only [noBs, Bool.and_eq_true] at ha hb
      rw [eqv_eq x y ha.1 hb.1 e.1, eqvs_eq xs ys ha.2 hb.2 e.2]
end
theorem noBs_map {α : Type} {f : α → D} : ∀ {xs : List α}, (∀ x ∈ xs, noB (f x) = true) → noBs (xs.map f) = true
  | [], _ => rfl
  | x :: r, h => by rw [List.map_cons, noBs, h x (by simp), noBs_map fun y hy => h y (by simp [hy])]; rfl
theorem noB_tup (xs : List D) : noB (.tup xs) = noBs xs := by rw [noB]
theorem noB_cut (ts : List Cs) (a : Cs) : noB (cutW ts a) = true := by
  rw [cutW, noB_tup]
  exact noBs_map fun n _ => rfl
theorem noB_key (ts : List Cs) (b : Bk) : noB (keyD ts b) = true := by
  obtain ⟨ns, y, t, p, v⟩ := b
  have h1 : noBs (ns.map fun n => D.tup [cutW ts n.1, .str n.2]) = true := noBs_map fun n _ => by simp [noB_tup, noBs, noB_cut, noB]
  have h2 : noBs ((sp1 t).map (cutW ts)) = true := noBs_map fun w _ => noB_cut ts w
  have h3 : noB (keyP ts p) = true := by cases p <;> simp [keyP, noB_tup, noBs, noB_cut]
  have h4 : noB (keyV v) = true := by cases v <;> simp [keyV, noB_tup, noBs, noB]
  simp only [keyD, noB_tup, noBs, h1, h2, h3, h4, noB]
  rfl
/-- a's key is less than b's -/
def kLt (ts : List Cs) (a b : Bk) : Bool := dataLt (keyD ts a).pd (keyD ts b).pd
theorem kLt_irrefl (ts : List Cs) (a : Bk) : kLt ts a a = false := dataLt_self _
theorem kLt_asymm {ts : List Cs} {a b : Bk} (h : kLt ts a b = true) : kLt ts b a = false := KeyOrd.klt_asymm (O := listOrd itemOrd) h
theorem kLt_total {ts : List Cs} (ht : LetsOk ts) {a b : Bk} (ha : a.Ok) (hb : b.Ok) (ne : a ≠ b) : kLt ts a b = true ∨ kLt ts b a = true := by
  cases h1 : kLt ts a b with
  | true => exact .inl rfl
  | false =>
    cases h2 : kLt ts b a with
    | true => exact .inr rfl
    | false =>
      exfalso
      have e : keyToks (keyD ts a).pd = keyToks (keyD ts b).pd := lex_total (O := itemOrd) _ _ h1 h2
      have al := alike_key ts a b
      cases h3 : PyData.eqv (keyD ts a).pd (keyD ts b).pd with
      | true => exact ne (keyD_inj ht ha hb (eqv_eq _ _ (noB_key ts a) (noB_key ts b) h3))
      | false =>
        have t := (toks_eqv _ _ al).2 h3 [.inl 0] [.inl 1]
        rw [e, lex_pre, lex_irrefl] at t
        exact absurd t (by decide)
theorem ordB_sorted {ts : List Cs} (ht : LetsOk ts) {bs : List Bk} (hb : ∀ b ∈ bs, b.Ok) (nd : bs.Nodup) : (ordB ts bs).Pairwise fun a b => kLt ts a b = true := by
  have pm := ordB_perm ts bs
  have s1 : (ordB ts bs).Pairwise fun a b => dataLe false (fun b => (keyD ts b).pd) a b = true := sort_pairwise (sortLe_total (listOrd itemOrd) false _) bs
  have s2 : (ordB ts bs).Nodup := pm.nodup_iff.mpr nd
  refine List.Pairwise.imp_of_mem (fun {a b} ha hb' h => ?_) (List.pairwise_and_iff.mpr ⟨s1, s2⟩)
  obtain ⟨h1, h2⟩ := h
  have h1 : (!kLt ts b a) = true := h1
  rcases kLt_total ht (hb a (pm.mem_iff.mp ha)) (hb b (pm.mem_iff.mp hb')) h2 with h | h
  · exact h
  · rw [h] at h1
    cases h1
/-- a book's place: how many are less -/
theorem place_at {lt : Bk → Bk → Bool} (irr : ∀ a, lt a a = false) (asy : ∀ a b, lt a b = true → lt b a = false) : ∀ {l : List Bk} {b : Bk}, l.Pairwise (fun a b => lt a b = true) → b ∈ l → l[(l.filter fun x => lt x b).length]? = some b
  | x :: r, b, hp, hb => by
    obtain ⟨h1, h2⟩ := List.pairwise_cons.mp hp
    rcases List.mem_cons.mp hb with rfl | hb
    · have e : (b :: r).filter (fun x => lt x b) = [] := by
        rw [List.filter_eq_nil_iff]
        intro y hy
        rcases List.mem_cons.mp hy with rfl | hy
        · rw [irr]; decide
        · rw [asy _ _ (h1 y hy)]; decide
      rw [e]
      rfl
    · rw [List.filter_cons_of_pos (by exact h1 b hb)]
      simp only [List.length_cons, List.getElem?_cons_succ]
      exact place_at irr asy h2 hb
theorem sorted_unique {lt : Bk → Bk → Bool} (irr : ∀ a, lt a a = false) (asy : ∀ a b, lt a b = true → lt b a = false) : ∀ {l m : List Bk}, l.Pairwise (fun a b => lt a b = true) → m.Pairwise (fun a b => lt a b = true) → l.Perm m → l = m
  | [], m, _, _, h => (List.nil_perm.mp h).symm
  | x :: r, [], _, _, h => absurd h.length_eq (by simp)
  | x :: r, y :: s, hl, hm, h => by
    obtain ⟨l1, l2⟩ := List.pairwise_cons.mp hl
    obtain ⟨m1, m2⟩ := List.pairwise_cons.mp hm
    have e : x = y := by
      rcases List.mem_cons.mp (h.mem_iff.mp (List.mem_cons_self (a := x) (l := r))) with e | hx
      · exact e
      · rcases List.mem_cons.mp (h.mem_iff.mpr (List.mem_cons_self (a := y) (l := s))) with e | hy
        · exact e.symm
        · have q1 := m1 x hx
          have q2 := l1 y hy
          rw [asy _ _ q1] at q2
          cases q2
    subst e
    rw [sorted_unique irr asy l2 m2 (List.Perm.cons_inv h)]
theorem ordB_perm_eq {ts : List Cs} (ht : LetsOk ts) {bs cs : List Bk} (hb : ∀ b ∈ bs, b.Ok) (nd : bs.Nodup) (h : cs.Perm bs) : ordB ts cs = ordB ts bs :=
  sorted_unique (kLt_irrefl ts) (fun _ _ => kLt_asymm) (ordB_sorted ht (fun b hb' => hb b (h.mem_iff.mp hb')) (h.nodup_iff.mpr nd)) (ordB_sorted ht hb nd) ((ordB_perm ts cs).trans (h.trans (ordB_perm ts bs).symm))
/-- the place of a book in order, counted over the list as it stands -/
theorem ordB_place {ts : List Cs} (ht : LetsOk ts) {bs : List Bk} (hb : ∀ b ∈ bs, b.Ok) (nd : bs.Nodup) {b : Bk} (m : b ∈ bs) : (ordB ts bs)[(bs.filter fun x => kLt ts x b).length]? = some b := by
  have pm := ordB_perm ts bs
  rw [← ((pm.filter fun x => kLt ts x b).length_eq)]
  exact place_at (kLt_irrefl ts) (fun _ _ => kLt_asymm) (ordB_sorted ht hb nd) (pm.mem_iff.mpr m)
end Ib
set_option Elab.async false
set_option linter.all false
set_option autoImplicit false
set_option maxRecDepth 100000
set_option maxHeartbeats 4000000
/-! IbM21: the law's listed. -/
namespace Ib
open PySem PySem.Spec PyProof.Rows L2 TL PySem.W
variable [Tabl]
def p_l_listed : LSp := fun x xs z R => ∃ (s : Sty) (bs : List Bk) (ts : List Cs), x = s.toD ∧ xs = bs.map Bk.toD ∧ z = .tup (ts.map D.str) ∧ s.Pre ∧ (∀ b ∈ bs, b.Ok ∧ Sm b.toD) ∧ bs.Nodup ∧ bs.length ≤ 10 ∧ LetsOk ts ∧ R (.str (((ordB ts bs).map fun b => lnL s.shown b s.pcs ++ [10]).flatten))
theorem e_l_listed {s : Sty} {bs : List Bk} {ts : List Cs} {R : D → Prop} (h1 : s.Pre) (h2 : ∀ b ∈ bs, b.Ok ∧ Sm b.toD) (h3 : bs.Nodup) (h4 : bs.length ≤ 10) (h5 : LetsOk ts) (h : R (.str (((ordB ts bs).map fun b => lnL s.shown b s.pcs ++ [10]).flatten))) : p_l_listed s.toD (bs.map Bk.toD) (.tup (ts.map D.str)) R :=
  ⟨s, bs, ts, rfl, rfl, rfl, h1, h2, h3, h4, h5, h⟩
theorem ixN_of {n j : Nat} (hj : j < n) : ixN n (j : Int) = some j := by
  unfold ixN
  rw [if_pos (by omega), if_pos (by omega)]
  simp
theorem lenLc {di : DIC} {g : DG} {tt : DT} {te : DE} {vs : List Nat} {δ : DEnv} {P : U → DEnv → Prop} (h : dLc di g tt te vs δ fun w δ1 => fLen w δ1 P) : dCB (vOne fLen) (dCons (dLc di g tt te vs) dNil) δ P := h
theorem ixVa {δ : DEnv} {P : U → DEnv → Prop} {i j : Nat} {n : Int} {xs : List D} {x : D} (e : δ[i]? = some (some (.lst xs))) (e2 : δ[j]? = some (some (.d (.int n)))) (a : atI xs n = some x) (h : P (.d x) δ) : d2 vIx (dVar i) (dVar j) δ P := by
  simp only [d2, dVar, e, e2, vIx, seqU, a]
  exact h
theorem icLa {i : Nat} {δ : DEnv} {xs : List D} (e : δ[i]? = some (some (.lst xs))) (R' : List D → (DEnv → Prop) → DEnv → Prop) (h : R' xs (fun δ2 => δ2[i]? = some (some (.lst xs))) δ) : icL (dVar i) δ R' := by
  simp only [icL, dVar, e]
  exact h
def ds_l_listed : DS :=
    (sSeq (sSet (dLc (icL (dVar 1)) (gN 7) ttYes (dCallP p_l_key (dCons (dVar 7) (dCons (dVar 2) dNil))) [7]) 3)
    (sSeq (sSet (dLc (icL (dVar 1)) (gN 7) ttYes (dC (.str k_empty)) [7]) 4)
    (sSeq (sFor (iR (dCB (vOne fLen) (dCons (dVar 1) dNil))) (gN 5) (sSeq (sSet (dCB (vOne fLen) (dCons (dLc (icL (dVar 3)) (gN 8) (dB (d2 vLtD (dVar 8) (d2 vIx (dVar 3) (dVar 5)))) (dVar 8) [8]) dNil)) 6)
    (sSetIx (d2 (p2 sCat) (dCallP p_l_line (dCons (d2 vIx (dVar 0) (dC (.int 0))) (dCons (d2 vIx (dVar 0) (dC (.int 1))) (dCons (d2 vIx (dVar 1) (dVar 5)) dNil)))) (dC (.str k_x10))) (dVar 4) (dVar 6))))
    (sRet (dMS mJoin (dC (.str k_empty)) (dCons (dVar 4) dNil))))))
open Classical in
theorem sem_l_listed (d0 : D) (xs : List D) (d2 : D) (R : D → Prop) (h : p_l_listed d0 xs d2 R) : ds_l_listed { nx := fun _ => False, rt := fun w δ => δ[1]? = some (some (.lst xs)) ∧ ∃ y, w = .d y ∧ R y } (slots N_l_listed [.d d0, .lst xs, .d d2]) := by
  obtain ⟨s, bs, ts, rfl, rfl, rfl, hp, hb, nd, hl, ht, h⟩ := h
  have szl := sizeLine_eq
  have pm := ordB_perm ts bs
  have pml := pm.length_eq
  obtain ⟨key, hkey⟩ := ext1 Bk.inj (keyD ts) .non
  have ekey : (bs.map Bk.toD).map key = bs.map (keyD ts) := by
    rw [List.map_map]
    exact List.map_congr_left fun b _ => hkey b
  obtain ⟨os, hos⟩ : ∃ os, os = ordB ts bs := ⟨_, rfl⟩
  rw [← hos] at h pm pml
  have hplace : ∀ b ∈ bs, os[(bs.filter fun x => kLt ts x b).length]? = some b := fun b m => by rw [hos]; exact ordB_place ht (fun b hb' => (hb b hb').1) nd m
  have ond : os.Nodup := pm.nodup_iff.mpr nd
  clear hos
  obtain ⟨L, hL⟩ : ∃ L : Bk → Cs, L = fun b => lnL s.shown b s.pcs ++ [10] := ⟨_, rfl⟩
  rw [← hL] at h
  have hLl : ∀ b ∈ bs, (L b).length ≤ 400000 := fun b m => by
    have := lnL_len (ps := s.pcs) hp.pc hp.sh (hb b m).1 (hb b m).2
    have := hp.n10
    rw [hL]
    simp only [List.length_append, List.length_singleton]
    omega
  unfold ds_l_listed
  refine seqV ?_
  simp only [sSet]
  refine dLc_map (xs := bs.map Bk.toD) (ok := fun δ2 => δ2[1]? = some (some (.lst (bs.map Bk.toD)))) key (icLa rfl) rfl (free1 rfl) (by rw [List.length_map]; omega) (fun x hx P hP => ?_) ?_
  · obtain ⟨b, m, rfl⟩ := List.mem_map.mp hx
    rw [hkey] at hP
    simp only [gN, dCallP]
    refine dConsa (dVara rfl (dConsa (dVara rfl ?_)))
    simp only [dNil, allD]
    refine (e_l_key b ts _).mpr ⟨(hb b m).2, (hb b m).1, ht, ?_⟩
    exact hP _ rfl
  rw [ekey]
  dsimp only
  refine seqV ?_
  simp only [sSet]
  refine dLc_map (xs := bs.map Bk.toD) (ok := fun δ2 => δ2[1]? = some (some (.lst (bs.map Bk.toD)))) (fun _ => .str []) (icLa rfl) rfl (free1 rfl) (by rw [List.length_map]; omega) (fun x hx P hP => ?_) ?_
  · exact hP _ rfl
  dsimp only
  refine seqV ?_
  unfold sFor
  simp only [iR]
  refine lenLa rfl ?_
  rw [List.length_map]
  refine ⟨by omega, by omega, fun i δ => i ≤ bs.length ∧ ∃ q5 q6 : Option U, δ = [some (.d s.toD), some (.lst (bs.map Bk.toD)), some (.d (.tup (ts.map D.str))), some (.lst (bs.map (keyD ts))), some (.lst (os.map fun b => if b ∈ bs.take i then .str (L b) else .str [])), q5, q6, none, none], ⟨Nat.zero_le _, none, none, ?_⟩, ?_, ?_⟩
  · have e : (bs.map Bk.toD).map (fun _ => D.str []) = os.map fun b => if b ∈ bs.take 0 then D.str (L b) else .str [] := by
      rw [List.map_map]
      refine (List.eq_replicate_of_mem (a := D.str []) fun y hy => ?_).trans ((List.eq_replicate_of_mem (a := D.str []) fun y hy => ?_).trans ?_).symm
      · obtain ⟨b, _, rfl⟩ := List.mem_map.mp hy
        rfl
      · obtain ⟨b, _, rfl⟩ := List.mem_map.mp hy
        simp
      · rw [List.length_map, List.length_map, pml]
    rw [← e]
    rfl
  · rintro i x δ hx ⟨hi, q5, q6, rfl⟩
    obtain ⟨rfl, hlt⟩ : x = .int (i : Nat) ∧ i < bs.length := by
      have := rngD_get hx
      refine ⟨this.1, ?_⟩
      have := this.2
      omega
    obtain ⟨b, hbi⟩ : ∃ b, bs[i]? = some b := ⟨_, List.getElem?_eq_getElem hlt⟩
    have m : b ∈ bs := List.mem_of_getElem? hbi
    have hpl := hplace b m
    have eb : atI (bs.map Bk.toD) (i : Int) = some b.toD := atI_nat (by rw [List.getElem?_map, hbi]; rfl)
    have ek : atI (bs.map (keyD ts)) (i : Int) = some (keyD ts b) := atI_nat (by rw [List.getElem?_map, hbi]; rfl)
    simp only [gN]
    refine seqV ?_
    simp only [sSet]
    refine lenLc ?_
    refine dLc_filter (xs := bs.map (keyD ts)) (ok := fun δ2 => δ2[3]? = some (some (.lst (bs.map (keyD ts))))) (fun y => dataLt y.pd (keyD ts b).pd) id (icLa rfl) rfl (free1 rfl) (by rw [List.length_map]; omega) (fun x hx P hP => ?_) ?_
    · obtain ⟨c, mc, rfl⟩ := List.mem_map.mp hx
      simp only [gN, dB]
      show dVar 8 _ _
      refine dVara rfl (ixVa rfl rfl ek ⟨alike_key ts c b, ?_, depth_key ts c, ?_⟩)
      · simp [keyD, D.pd]
      · exact hP _ rfl fun _ P' hP' => dVara rfl (hP' _ rfl)
    · have el : (((bs.map (keyD ts)).filter fun y => dataLt y.pd (keyD ts b).pd).map id).length = (bs.filter fun x => kLt ts x b).length := by
        rw [List.length_map, List.filter_map, List.length_map]
        rfl
      simp only [fLen, seqU]
      rw [el]
      generalize (bs.filter fun x => kLt ts x b).length = sp at hpl
      have hsp : sp < os.length := (List.getElem?_eq_some_iff.mp hpl).1
      simp only [sSetIx]
      simp only [Ib.d2, dCallP]
      refine dConsa (ixTa (xs := [.tup (s.pcs.map Pc.toD), s.shown.toD]) rfl (atI_zero _ _) (dConsa (ixTa (xs := [.tup (s.pcs.map Pc.toD), s.shown.toD]) rfl (atI_1 _ _ _) (dConsa (ixVa rfl rfl eb ?_)))))
      simp only [dNil, allD]
      refine (e_l_line s.pcs s.shown b _).mpr ⟨hp.n10, hp.pc, hp.sh, (hb b m).1, (hb b m).2, ?_⟩
      have hLb := hLl b m
      rw [hL] at hLb
      simp only [List.length_append, List.length_singleton] at hLb
      refine dCa ?_
      simp only [p2, sCat]
      rw [if_pos (mill2 (by show _ + 1 ≤ _; omega))]
      dsimp only
      refine dLista rfl ?_
      refine dVara rfl ?_
      have ex : ixN (os.map fun b => if b ∈ bs.take i then D.str (L b) else .str []).length (sp : Int) = some sp := by
        rw [List.length_map]
        exact ixN_of hsp
      show (match ixN (os.map fun b => if b ∈ bs.take i then D.str (L b) else .str []).length (sp : Int) with
        | some n => _
        | none => False)
      rw [ex]
      refine ⟨hlt, some (.d (.int (i : Nat))), some (.d (.int (sp : Nat))), ?_⟩
      have eset : ((os.map fun b => if b ∈ bs.take i then D.str (L b) else .str []).set sp (D.str (L b))) = os.map fun b => if b ∈ bs.take (i + 1) then D.str (L b) else .str [] := by
        apply List.ext_getElem?
        intro j
        by_cases hj : j = sp
        · subst hj
          rw [List.getElem?_set_self (by rw [List.length_map]; exact hsp), List.getElem?_map, hpl]
          simp only [Option.map_some]
          rw [if_pos (by rw [take_snoc hbi]; simp)]
        · rw [List.getElem?_set_ne (Ne.symm hj), List.getElem?_map, List.getElem?_map]
          cases ej : os[j]? with
          | none => rfl
          | some c =>
            have hcb : c ≠ b := fun z => by
              subst z
              obtain ⟨j1, j2⟩ := List.getElem?_eq_some_iff.mp ej
              obtain ⟨k1, k2⟩ := List.getElem?_eq_some_iff.mp hpl
              exact hj ((List.getElem_inj ond).mp (j2.trans k2.symm))
            simp only [Option.map_some, take_snoc hbi, List.mem_append, List.mem_singleton, hcb, or_false]
      rw [← eset, hL]
      rfl
  · rintro δ ⟨_, q5, q6, rfl⟩
    have hlen : (rngD (bs.length : Int).toNat).length = bs.length := by simp [rngD]
    rw [hlen, List.take_length]
    have eo : (os.map fun b => if b ∈ bs then D.str (L b) else .str []) = (os.map L).map D.str := by
      rw [List.map_map]
      exact List.map_congr_left fun b m => if_pos (pm.mem_iff.mp m)
    rw [eo]
    simp only [sRet, dMS]
    refine dCa ⟨trivial, dConsa (dLista rfl ?_)⟩
    have hs := sum_le (f := fun x : Cs => x.length) (k := 400000) (xs := os.map L) fun l hl => by
      obtain ⟨b, m, rfl⟩ := List.mem_map.mp hl
      exact hLl b (pm.mem_iff.mp m)
    rw [List.length_map] at hs
    simp only [dNil, k_empty, mJoin, seqU, List.getElem?_cons_succ, List.getElem?_cons_zero, Option.bind_some, strsOf_map]
    exact ⟨by omega, trivial, _, rfl, h⟩
section
variable {P : Program} {w : World} {K : PySem.W.Frag} {mg : Str → Option Value} {base : Heap}
theorem ok_l_listed (T : Txt K mg) (F : Df K mg "_law_listed" s_l_listed) (O_l_key : Ok P w K mg base 2 "_law_key" ["_law_book_here", "_law_letters_here"] (spP K p_l_key)) (O_l_line : Ok P w K mg base 4 "_law_line" ["_law_pieces", "_law_shown_here", "_law_book_here"] (spP K p_l_line)) : Ok P w K mg base 5 "_law_listed" ["_law_style_here", "_law_books", "_law_letters_here"] (spL K p_l_listed) := by
  obtain ⟨f, fd, F, g⟩ := F
  refine ⟨f, fd, fnL F sc_l_listed rfl (by decide) (ds := ds_l_listed) (fun cdv A outer s H E hr => ?_) sem_l_listed, g, F.kp, F.binds fun _ _ _ _ _ _ us hl => match us, hl with | [_, _, _], _ => rfl⟩
  exact (dss_cons (ds_set 3 (by decide) sc_l_listed.nd (de_lc (own := [("_law_book_here", 7)]) rfl sc_l_listed.nd (ic_lst (dv 1)) (blkOk_by (own := [("_law_book_here", 7)]) (N := N_l_listed) (sc := defScope s_l_listed) (by decide +kernel)) (fun _ _ _ _ _ => (dg_name 7 (by decide) sc_l_listed.nd)) (fun _ _ _ _ _ => dts_nil) (fun _ _ _ _ _ => (dcall O_l_key (by exact hr.mono (by decide)) (by rfl) (da_cons (dv 7) (da_cons (dv 2) da_nil))))))
    (dss_cons (ds_setLc (own := [("_law_book_here", 7)]) (i := 4) (by decide) rfl sc_l_listed.nd rfl rfl (sw_true rfl rfl rfl (by decide +kernel)) (ic_lst (dv 1)) (blkOk_by (own := [("_law_book_here", 7)]) (N := N_l_listed) (sc := defScope s_l_listed) (by decide +kernel)) (fun _ _ _ _ _ => (dg_name 7 (by decide) sc_l_listed.nd)) (fun _ _ _ _ _ => dts_nil) (fun _ _ _ _ _ => (de_str e_empty)))
    (dss_cons (ds_for PassesOwn.never rfl (di_rng (by rfl) T.m_range (de_callB call_len lift_len (by rfl) T.m_len (by decide +kernel) (da_cons (dv 1) da_nil))) (dg_name 5 (by decide) sc_l_listed.nd) (dss_cons (ds_set 6 (by decide) sc_l_listed.nd (de_callB call_len lift_len (by rfl) T.m_len (by decide +kernel) (da_cons (de_lc (own := [("_law_key_here", 8)]) rfl sc_l_listed.nd (ic_lst (dv 3)) (blkOk_by (own := [("_law_key_here", 8)]) (N := N_l_listed) (sc := defScope s_l_listed) (by decide +kernel)) (fun _ _ _ _ _ => (dg_name 8 (by decide) sc_l_listed.nd)) (fun _ _ _ _ _ => (dts_one (dt_cmp (op_ltD hr.units) lift_ltD (dv 8) (de_ix ix_seq lift_ix (dv 3) (dv 5)) (nomark _)))) (fun _ _ _ _ _ => (dv 8))) da_nil)))
    (dss_one (ds_setIx (de_op op_add_str lift_sCat (dcall O_l_line (by exact hr.mono (by decide)) (by rfl) (da_cons (de_ix ix_seq lift_ix (dv 0) de_int) (da_cons (de_ix ix_seq lift_ix (dv 0) de_int) (da_cons (de_ix ix_seq lift_ix (dv 1) (dv 5)) da_nil)))) (de_str e_x10)) (dv 4) (dv 6)))))
    (dss_one (ds_ret (de_ms PySem.F.plainAttrs_str PySem.F.slot_str_join PySem.F.type_str_join mt_join lift_join (de_str e_empty) (da_cons (dv 4) da_nil)))))))
end
end Ib
set_option Elab.async false
set_option linter.all false
set_option autoImplicit false
set_option maxRecDepth 100000
set_option maxHeartbeats 4000000
/-! IbN2: the law's line is the entry. -/
namespace Ib
open PySem PySem.Spec PyProof.Rows L2 TL PySem.W
variable [Tabl]
def setTks (b : Bk) (l : List Tok) : Cs := (l.map (setTk b)).flatten
theorem setTks_app (b : Bk) (l m : List Tok) : setTks b (l ++ m) = setTks b l ++ setTks b m := by simp [setTks]
theorem setTks_sgns (b : Bk) : ∀ c : Cs, setTks b (sgns c) = c
  | [] => rfl
  | x :: r => by
    have ih := setTks_sgns b r
    show [x] ++ setTks b (sgns r) = _
    rw [ih]
    rfl
theorem setTks_flat (b : Bk) : ∀ L : List (List Tok), setTks b L.flatten = (L.map (setTks b)).flatten
  | [] => rfl
  | l :: r => by rw [List.flatten_cons, setTks_app, setTks_flat b r]; rfl
theorem setTks_one (b : Bk) (t : Tok) : setTks b [t] = setTk b t := by simp [setTks]
theorem name_line (s : Shown) (b : Bk) (i : Nat) : setTks b (nameTk s i) = pplN s (b.names.getD i ([], [])) := by
  unfold nameTk pplN
  split
  · rw [setTks_one]; rfl
  · have hg : setTks b [if s.dotted then Tok.dot i else Tok.giv i] = if s.dotted then dots (b.names.getD i ([], [])).2 else (b.names.getD i ([], [])).2 := by
      rw [setTks_one]
      split <;> rfl
    have hf : setTks b [Tok.fam i] = (b.names.getD i ([], [])).1 := setTks_one _ _
    split
    · rw [setTks_app, setTks_app, hg, hf, setTks_sgns]
    · rw [setTks_app, setTks_app, hg, hf, setTks_sgns]
theorem names_line (s : Shown) (b : Bk) : setTks b (namesTk s b.names.length) = pplL s b.names := by
  unfold namesTk pplL
  rw [setTks_app, setTks_flat, List.map_map]
  have h1 : setTks b (if min b.names.length s.most < b.names.length then sgns s.rest else []) = if min b.names.length s.most < b.names.length then s.rest else [] := by
    split
    · exact setTks_sgns _ _
    · rfl
  rw [h1]
  congr 2
  refine List.map_congr_left fun i hi => ?_
  have hi := List.mem_range.mp hi
  show setTks b (nmTk s b.names.length (min b.names.length s.most) i) = ppl1 s b.names i
  unfold nmTk ppl1
  rw [setTks_app, name_line]
  congr 1
  by_cases h0 : 0 < i
  · rw [if_pos h0, if_pos h0, setTks_sgns]
    by_cases h2 : i = b.names.length - 1
    · rw [if_pos h2, if_pos ⟨by omega, by omega⟩]
    · rw [if_neg h2, if_neg (by omega)]
  · rw [if_neg h0, if_neg h0]
    rfl
theorem pp_line (s : Shown) {b : Bk} {p : PP} (hp : p.Ok) : setTks b (plTk s b.shp p) = lnP s b p := by
  cases p with
  | mk c => exact setTks_sgns b c
  | fld f =>
    have hf : f ∈ FLD := hp
    simp only [plTk, lnP]
    by_cases hn : f = k_names
    · rw [if_pos hn, if_pos hn]
      exact names_line s b
    · rw [if_neg hn, if_neg hn]
      have e1 : k_title ≠ k_year := by decide
      have e2 : k_place ≠ k_year := by decide
      have e3 : k_place ≠ k_title := by decide
      have e4 : k_volume ≠ k_year := by decide
      have e5 : k_volume ≠ k_title := by decide
      have e6 : k_volume ≠ k_place := by decide
      have e7 : k_year ≠ k_title := by decide
      have e8 : k_year ≠ k_place := by decide
      have e9 : k_year ≠ k_volume := by decide
      have e10 : k_title ≠ k_place := by decide
      have e11 : k_title ≠ k_volume := by decide
      have e12 : k_place ≠ k_volume := by decide
      simp only [List.mem_cons, List.not_mem_nil, or_false] at hf
      obtain ⟨ns, y, t, pl, v⟩ := b
      rcases hf with rfl | rfl | rfl | rfl | rfl
      · exact absurd rfl hn
      · simp [e8, e9, setTks_one, setTk, vl, e7]
      · simp [e10, e11, setTks_one, setTk, vl, e1]
      · cases pl <;> simp [e12, Bk.shp, setTks_one, setTk, vl, e2, e3] <;> rfl
      · cases v <;> simp [e6, Bk.shp, setTks_one, setTk, vl, e4, e5] <;> rfl
theorem pps_line (s : Shown) {b : Bk} : ∀ {ps : List PP}, (∀ p ∈ ps, p.Ok) → setTks b ((ps.map (plTk s b.shp)).flatten) = lnPs s b ps
  | [], _ => rfl
  | p :: r, h => by
    rw [List.map_cons, List.flatten_cons, setTks_app, pp_line s (h p (by simp)), pps_line s fun q hq => h q (by simp [hq])]
    rfl
theorem pc_line (s : Shown) (b : Bk) (x : Pc) : lnPs s b (x.get b.shp) = lnPc s b x := by
  cases x with
  | p x => simp [Pc.get, lnPs, lnPc]
  | cond a t e => rfl
theorem pcs_line (s : Shown) (b : Bk) : ∀ ps : List Pc, lnPs s b (flatP b.shp ps) = lnL s b ps
  | [] => rfl
  | x :: r => by
    show lnPs s b (x.get b.shp ++ flatP b.shp r) = lnPc s b x ++ lnL s b r
    rw [← pcs_line s b r, ← pc_line]
    simp [lnPs]
/-- the law's line is the entry -/
theorem line_ent {s : Sty} (h : s.Pre) (b : Bk) : lnL s.shown b s.pcs = entL s b := by
  rw [← pcs_line, ← pps_line s.shown fun p hp => flatP_ok h.pc p hp]
  rfl
end Ib
set_option Elab.async false
set_option linter.all false
set_option autoImplicit false
set_option maxRecDepth 100000
set_option maxHeartbeats 4000000
/-! IbM19: styles drawn. -/
namespace Ib
open PySem PySem.Spec PyProof.Rows L2 TL PySem.W
variable [Tabl]
/-! ### no token but a sign comes twice, if no field does -/
def Tok.cls : Tok → Cs
  | .sign _ => []
  | .fld f => f
  | _ => k_names
def nsg (l : List Tok) : List Tok := l.filter fun t => !t.isSign
theorem nsg_app (a b : List Tok) : nsg (a ++ b) = nsg a ++ nsg b := by simp [nsg]
theorem nsg_sgns (l : Cs) : nsg (sgns l) = [] := by
  induction l with
  | nil => rfl
  | cons c r ih => exact ih
theorem nsg_flat : ∀ L : List (List Tok), nsg L.flatten = (L.map nsg).flatten
  | [] => rfl
  | l :: r => by rw [List.flatten_cons, nsg_app, nsg_flat r]; rfl
def fTk (s : Shown) (sh : Shp) (f : Cs) : List Tok := nsg (plTk s sh (.fld f))
theorem nsg_row (s : Shown) (sh : Shp) : ∀ ps : List PP, nsg ((ps.map (plTk s sh)).flatten) = ((flds ps).map (fTk s sh)).flatten
  | [] => rfl
  | .mk c :: r => by
    rw [List.map_cons, List.flatten_cons, nsg_app, nsg_row s sh r]
    show nsg (sgns c) ++ _ = _
    rw [nsg_sgns]
    rfl
  | .fld f :: r => by
    rw [List.map_cons, List.flatten_cons, nsg_app, nsg_row s sh r]
    rfl
theorem nsg_name (s : Shown) (i : Nat) : (nsg (nameTk s i)).Nodup ∧ ∀ t ∈ nsg (nameTk s i), t = .fam i ∨ t = .giv i ∨ t = .dot i := by
  unfold nameTk
  split
  · exact ⟨by simp [nsg, Tok.isSign], fun t ht => by simp [nsg, Tok.isSign] at ht; exact .inl ht⟩
  · split
    · rw [nsg_app, nsg_app, nsg_sgns]
      cases s.dotted
      · exact ⟨by simp [nsg, Tok.isSign], fun t ht => by simp [nsg, Tok.isSign] at ht; rcases ht with h | h <;> simp [h]⟩
      · exact ⟨by simp [nsg, Tok.isSign], fun t ht => by simp [nsg, Tok.isSign] at ht; rcases ht with h | h <;> simp [h]⟩
    · rw [nsg_app, nsg_app, nsg_sgns]
      cases s.dotted
      · exact ⟨by simp [nsg, Tok.isSign], fun t ht => by simp [nsg, Tok.isSign] at ht; rcases ht with h | h <;> simp [h]⟩
      · exact ⟨by simp [nsg, Tok.isSign], fun t ht => by simp [nsg, Tok.isSign] at ht; rcases ht with h | h <;> simp [h]⟩
theorem nsg_names (s : Shown) (n : Nat) : (nsg (namesTk s n)).Nodup ∧ ∀ t ∈ nsg (namesTk s n), t.cls = k_names := by
  unfold namesTk
  have e : nsg (if min n s.most < n then sgns s.rest else []) = [] := by
    split
    · exact nsg_sgns _
    · rfl
  rw [nsg_app, e, List.append_nil, nsg_flat, List.map_map]
  have one : ∀ i, nsg (nmTk s n (min n s.most) i) = nsg (nameTk s i) := fun i => by
    unfold nmTk
    rw [nsg_app]
    split
    · rw [nsg_sgns]; rfl
    · rfl
  have eq : (List.range (min n s.most)).map (nsg ∘ nmTk s n (min n s.most)) = (List.range (min n s.most)).map fun i => nsg (nameTk s i) := List.map_congr_left fun i _ => one i
  rw [eq]
  refine ⟨?_, fun t ht => ?_⟩
  · unfold List.Nodup
    rw [List.pairwise_flatten]
    refine ⟨fun l hl => ?_, ?_⟩
    · obtain ⟨i, _, rfl⟩ := List.mem_map.mp hl
      exact (nsg_name s i).1
    · rw [List.pairwise_map]
      refine (List.nodup_range (n := min n s.most)).imp fun {i j} hij x hx y hy z => ?_
      subst z
      rcases (nsg_name s i).2 x hx with rfl | rfl | rfl <;> rcases (nsg_name s j).2 _ hy with h | h | h <;> simp at h <;> exact hij h
  · obtain ⟨l, hl, ht⟩ := List.mem_flatten.mp ht
    obtain ⟨i, _, rfl⟩ := List.mem_map.mp hl
    rcases (nsg_name s i).2 t ht with rfl | rfl | rfl <;> rfl
theorem fTk_ok (s : Shown) (sh : Shp) (f : Cs) : (fTk s sh f).Nodup ∧ ∀ t ∈ fTk s sh f, t.cls = f := by
  unfold fTk plTk
  by_cases h : f = k_names
  · simp only [if_pos h]
    subst h
    exact nsg_names s sh.n
  · simp only [if_neg h]
    split
    · exact ⟨List.nodup_nil, fun t ht => nomatch ht⟩
    · exact ⟨by simp [nsg, Tok.isSign], fun t ht => by simp [nsg, Tok.isSign] at ht; subst ht; rfl⟩
theorem noT_of {s : Sty} {sh : Shp} (h : (flds (flatP sh s.pcs)).Nodup) : NoT (rowTk s sh) := by
  show (nsg (rowTk s sh)).Nodup
  unfold rowTk
  rw [nsg_row]
  unfold List.Nodup
  rw [List.pairwise_flatten]
  refine ⟨fun l hl => ?_, ?_⟩
  · obtain ⟨f, _, rfl⟩ := List.mem_map.mp hl
    exact (fTk_ok _ _ f).1
  · rw [List.pairwise_map]
    exact List.Pairwise.imp (fun {f g} hfg x hx y hy z => by
      subst z
      exact hfg (((fTk_ok _ _ f).2 x hx).symm.trans ((fTk_ok _ _ g).2 x hy))) h
theorem flatP_snoc (sh : Shp) (ps : List Pc) (x : Pc) : flatP sh (ps ++ [x]) = flatP sh ps ++ x.get sh := by simp [flatP]
theorem Sm_PP {p : PP} (h : p.Ok) : Sm p.toD := by
  cases p with
  | mk c =>
    have := txt_le (show txtL 1 3 c = true from h)
    have k : k_mark.length ≤ 1000 := by decide
    simp [PP.toD, k]
    omega
  | fld f =>
    have h : f ∈ FLD := h
    have : f.length ≤ 1000 := by
      simp only [List.mem_cons, List.not_mem_nil, or_false] at h
      rcases h with rfl | rfl | rfl | rfl | rfl <;> decide
    simp [PP.toD, this]
theorem Sm_PPs {ps : List PP} (hl : ps.length ≤ 3) (h : ∀ p ∈ ps, p.Ok) : Sm (.tup (ps.map PP.toD)) := by
  rw [Sm_tup, List.length_map]
  refine ⟨by omega, Sms_of fun x hx => ?_⟩
  obtain ⟨p, hp, rfl⟩ := List.mem_map.mp hx
  exact Sm_PP (h p hp)
theorem Sm_Pc {p : Pc} (h : p.Ok) : Sm p.toD := by
  cases p with
  | p x => exact Sm_PP h
  | cond a t e =>
    obtain ⟨ha, ⟨t3, ht⟩, ⟨e3, he⟩⟩ := h
    have k : k_if.length ≤ 1000 := by decide
    have ka : a.length ≤ 1000 := by
      simp only [List.mem_cons, List.not_mem_nil, or_false] at ha
      rcases ha with rfl | rfl <;> decide
    simp only [Pc.toD, Sm_tup, Sms_cons, Sms_nil, Sm_str]
    refine ⟨by simp, k, ka, ?_, ?_, trivial⟩
    · rw [← Sm_tup]; exact Sm_PPs t3 ht
    · rw [← Sm_tup]; exact Sm_PPs e3 he
theorem Sm_Shown {s : Shown} (h : s.Ok) : Sm s.toD := by
  have h1 := txt_le h.ga
  have h2 := txt_le h.jo
  have h3 := txt_le h.la
  have h4 := txt_le h.re
  have hg : s.given.length ≤ 1000 := by
    have := h.gi
    simp only [List.mem_cons, List.not_mem_nil, or_false] at this
    rcases this with e | e | e <;> rw [e] <;> decide
  simp only [Shown.toD, Sm_tup, Sms_cons, Sms_nil, Sm_str, Sm_bl, Sm_int]
  exact ⟨by simp, hg, trivial, by omega, by omega, by omega, trivial, by omega, trivial⟩
theorem Sm_Sty {s : Sty} (h : s.Pre) : Sm s.toD := by
  have := h.n10
  simp only [Sty.toD, Sm_tup, Sms_cons, Sms_nil]
  refine ⟨by simp, ?_, Sm_Shown h.sh, trivial⟩
  rw [List.length_map]
  refine ⟨by omega, Sms_of fun x hx => ?_⟩
  obtain ⟨p, hp, rfl⟩ := List.mem_map.mp hx
  exact Sm_Pc (h.pc p hp)
/-! ### drawn -/
def p_l_style : RSp := fun n a R => a = [] ∧ 2000 ≤ n ∧ ∀ (s : Sty) n', s.Ok → n ≤ n' + 2000 → R (.d s.toD) n'
@[simp] theorem e_l_style (n : Nat) (R : U → Nat → Prop) : p_l_style n [] R ↔ 2000 ≤ n ∧ ∀ (s : Sty) n', s.Ok → n ≤ n' + 2000 → R (.d s.toD) n' := by simp [p_l_style]
theorem len_l_style (n : Nat) (a : List D) (R : U → Nat → Prop) (h : p_l_style n a R) : a.length + 1 = 1 := by
  obtain ⟨rfl, _⟩ := h
  rfl
def ds_l_style : DS :=
    (sSeq (sSet (dLst (dCons (dC (.str k_names)) (dCons (dC (.str k_year)) (dCons (dC (.str k_title)) (dCons (dC (.str k_place)) (dCons (dC (.str k_volume)) dNil)))))) 1)
    (sSeq (sSet (dLst dNil) 2)
    (sSeq (sFor (iR (dC (.int 5))) (gN 3) (sSeq (sSet (dML (mMut fPopAt) (dVar 1) (dCons (dCallR p_l_draw (dCons (dVar 0) (dCons (dCB (vOne fLen) (dCons (dVar 1) dNil)) dNil))) dNil)) 4)
    (sSeq (sIf (dB (d2 (p2 (iCmp fun i j => decide (j < i))) (dCallR p_l_draw (dCons (dVar 0) (dCons (dC (.int 8)) dNil))) (dC (.int 0)))) (sExpr (dML (mMut fAppend) (dVar 2) (dCons (dCallR p_l_piece (dCons (dVar 0) (dCons (dVar 4) dNil))) dNil))) sNext)
    (sIf (dOr (dB (d2 (p2 (iCmp fun i j => decide (j < i))) (dCallR p_l_draw (dCons (dVar 0) (dCons (dC (.int 3)) dNil))) (dC (.int 0)))) (dB (d2 (p2 sEq) (dCB (vOne fLen) (dCons (dVar 2) dNil)) (dC (.int 0))))) (sExpr (dML (mMut fAppend) (dVar 2) (dCons (dCallR p_l_mark (dCons (dVar 0) dNil)) dNil))) sNext))))
    (sRet (dTup (dCons (dCB (vOne fTuple) (dCons (dVar 2) dNil)) (dCons (dCallR p_l_shown (dCons (dVar 0) dNil)) dNil)))))))
/-- what stands after i fields -/
structure StyI (i : Nat) (left : List Cs) (pcs : List Pc) : Prop where
  ll : left.length + i = 5
  sub : ∀ f ∈ left, f ∈ FLD
  nd : ∀ sh, (left ++ flds (flatP sh pcs)).Nodup
  pl : pcs.length ≤ 2 * i
  ok : ∀ x ∈ pcs, x.Ok
theorem StyI.mark {i : Nat} {left : List Cs} {pcs : List Pc} (h : StyI i left pcs) {l : Cs} (hl : txtL 1 3 l = true) (hp : pcs.length + 1 ≤ 2 * i) : StyI i left (pcs ++ [.p (.mk l)]) where
  ll := h.ll
  sub := h.sub
  nd := fun sh => by
    rw [flatP_snoc, flds_app]
    simp only [Pc.get, flds, List.append_nil]
    exact h.nd sh
  pl := by rw [List.length_append]; exact hp
  ok := fun x hx => by
    rcases List.mem_append.mp hx with hx | hx
    · exact h.ok x hx
    · rw [List.mem_singleton.mp hx]; exact hl
theorem StyI.field {i k : Nat} {left : List Cs} {pcs : List Pc} {f : Cs} (h : StyI i left pcs) (e : left[k]? = some f) : StyI (i + 1) (left.eraseIdx k) pcs ∧ f ∈ FLD ∧ ∀ x : Pc, x.Ok → One f x → StyI (i + 1) (left.eraseIdx k) (pcs ++ [x]) := by
  have pm := erase_perm e
  have hll : (left.eraseIdx k).length + 1 = left.length := by simpa using pm.length_eq
  have ll := h.ll
  have hf : f ∈ left := List.mem_of_getElem? e
  have sub : ∀ g ∈ left.eraseIdx k, g ∈ FLD := fun g hg => h.sub g (pm.mem_iff.mp (List.mem_cons_of_mem _ hg))
  have nd2 : ∀ sh, (f :: (left.eraseIdx k ++ flds (flatP sh pcs))).Nodup := fun sh => by
    have := (pm.append_right (flds (flatP sh pcs))).nodup_iff.mpr (h.nd sh)
    exact this
  refine ⟨⟨by omega, sub, fun sh => (List.nodup_cons.mp (nd2 sh)).2, by have := h.pl; omega, h.ok⟩, h.sub f hf, fun x hx hx1 => ⟨by omega, sub, fun sh => ?_, by have := h.pl; rw [List.length_append, List.length_singleton]; omega, fun y hy => ?_⟩⟩
  · rw [flatP_snoc, flds_app]
    rcases hx1 sh with z | z
    · rw [z, List.append_nil]; exact (List.nodup_cons.mp (nd2 sh)).2
    · rw [z, ← List.append_assoc]
      exact (List.perm_append_comm (l₁ := left.eraseIdx k ++ flds (flatP sh pcs)) (l₂ := [f])).nodup_iff.mpr (nd2 sh)
  · rcases List.mem_append.mp hy with hy | hy
    · exact h.ok y hy
    · rw [List.mem_singleton.mp hy]; exact hx
theorem sem_l_style (n : Nat) (ls : Addr) (a : List D) (R : U → Nat → Prop) (h : p_l_style n a R) : ds_l_style { nx := fun δ => ∃ n', δ[0]? = some (some (.rdr ls n')) ∧ R (.d .non) n', rt := fun w δ => ∃ n', δ[0]? = some (some (.rdr ls n')) ∧ (∃ y, w = .d y) ∧ R w n' } (slots N_l_style (.rdr ls n :: a.map U.d)) := by
  obtain ⟨rfl, h2, h⟩ := h
  unfold ds_l_style
  refine seqV ?_
  simp only [sSet, dLst]
  refine dConsa (dCa (dConsa (dCa (dConsa (dCa (dConsa (dCa (dConsa (dCa ?_)))))))))
  refine ⟨mill (by simp), ?_⟩
  refine seqV ?_
  simp only [sSet, dLst]
  refine ⟨mill (by simp), ?_⟩
  refine seqV ?_
  unfold sFor
  refine ⟨by decide, by decide, fun i δ => ∃ (left : List Cs) (pcs : List Pc) (n1 : Nat) (q3 q4 : Option U), δ = [some (.rdr ls n1), some (.lst (left.map D.str)), some (.lst (pcs.map Pc.toD)), q3, q4] ∧ StyI i left pcs ∧ (0 < i → 1 ≤ pcs.length) ∧ n ≤ n1 + 300 * i, ⟨FLD, [], n, none, none, rfl, ⟨rfl, fun f h => h, fun sh => (by decide : (FLD ++ []).Nodup), by simp, fun _ h => nomatch h⟩, fun z => absurd z (by omega), by omega⟩, ?_, ?_⟩
  · rintro i x δ hx ⟨left, pcs, n1, q3, q4, rfl, I, -, hn⟩
    have hlt : i < 5 := by
      have := (List.getElem?_eq_some_iff.mp hx).1
      simpa [rngD] using this
    have ll := I.ll
    have pl := I.pl
    simp only [gN]
    refine seqV ?_
    simp only [sSet]
    refine popDraw (n := n1) (xs := left.map D.str) rfl rfl (by decide) (by omega) (by rw [List.length_map]; omega) (by rw [List.length_map]; omega) fun k y hy => ?_
    rw [List.getElem?_map] at hy
    cases e1 : left[k]? with
    | none => rw [e1] at hy; cases hy
    | some f =>
      rw [e1] at hy
      cases hy
      rw [map_erase]
      obtain ⟨J0, hf, J1⟩ := I.field e1
      generalize left.eraseIdx k = left' at J0 J1
      dsimp only
      refine seqCut (fun δ => ∃ (pcs : List Pc) (n1 : Nat), δ = [some (.rdr ls n1), some (.lst (left'.map D.str)), some (.lst (pcs.map Pc.toD)), some (.d x), some (.d (.str f))] ∧ StyI (i + 1) left' pcs ∧ pcs.length ≤ 2 * i + 1 ∧ n ≤ n1 + 300 * i + 210) (fun N hN => ?_) ?_
      · simp only [sIf, dB, d2]
        refine c1 (n := n1 - 1) rfl (contR_d (x := .int 8) rfl ((e_l_draw _ _ _).mpr ⟨by omega, by decide, by decide, fun r r0 r1 => ?_⟩))
        refine dCa ?_
        simp only [p2, iCmp]
        refine ifB_of (fun _ => ?_) fun _ => ?_
        · simp only [sExpr, dML]
          refine dLista rfl ⟨rfl, dConsa (c1 rfl (dVara rfl (contR_d rfl ((e_l_piece _ _ _).mpr ⟨hf, by omega, fun p n2 p1 p2 hn2 => ?_⟩))))⟩
          refine appLa (xs := pcs.map Pc.toD) (y := p.toD) rfl (by rw [List.length_map, sizeLine_eq]; omega) ?_
          refine hN _ ⟨pcs ++ [p], n2, ?_, J1 p p1 p2, by rw [List.length_append, List.length_singleton]; omega, by omega⟩
          rw [List.map_append]
          rfl
        · exact hN _ ⟨pcs, _, rfl, J0, by omega, by omega⟩
      · rintro δ ⟨pcs, n2, rfl, J, pl2, hn2⟩
        have fin : ∀ n3, n2 ≤ n3 + 1 → (sExpr (dML (mMut fAppend) (dVar 2) (dCons (dCallR p_l_mark (dCons (dVar 0) dNil)) dNil))) { nx := fun δ => ∃ (left : List Cs) (pcs : List Pc) (n1 : Nat) (q3 q4 : Option U), δ = [some (.rdr ls n1), some (.lst (left.map D.str)), some (.lst (pcs.map Pc.toD)), q3, q4] ∧ StyI (i + 1) left pcs ∧ (0 < i + 1 → 1 ≤ pcs.length) ∧ n ≤ n1 + 300 * (i + 1), ct := fun δ => ∃ (left : List Cs) (pcs : List Pc) (n1 : Nat) (q3 q4 : Option U), δ = [some (.rdr ls n1), some (.lst (left.map D.str)), some (.lst (pcs.map Pc.toD)), q3, q4] ∧ StyI (i + 1) left pcs ∧ (0 < i + 1 → 1 ≤ pcs.length) ∧ n ≤ n1 + 300 * (i + 1), bk := fun _ => False, rt := fun w δ => ∃ n', δ[0]? = some (some (.rdr ls n')) ∧ (∃ y, w = .d y) ∧ R w n' } [some (.rdr ls n3), some (.lst (left'.map D.str)), some (.lst (pcs.map Pc.toD)), some (.d x), some (.d (.str f))] := by
          intro n3 hn3
          simp only [sExpr, dML]
          refine dLista rfl ⟨rfl, dConsa (c0 rfl ((e_l_mark _ _).mpr ⟨by omega, fun l n4 hl hn4 => ?_⟩))⟩
          refine appLa (xs := pcs.map Pc.toD) (y := (PP.mk l).toD) rfl (by rw [List.length_map, sizeLine_eq]; omega) ?_
          refine ⟨left', pcs ++ [.p (.mk l)], n4, some (.d x), some (.d (.str f)), ?_, J.mark hl (by omega), fun _ => by simp, by omega⟩
          rw [List.map_append]
          rfl
        simp only [sIf]
        unfold dOr
        simp only [dB, d2]
        refine c1 (n := n2) rfl (contR_d (x := .int 3) rfl ((e_l_draw _ _ _).mpr ⟨by omega, by decide, by decide, fun r r0 r1 => ?_⟩))
        refine dCa ?_
        simp only [p2, iCmp]
        refine ifB_of (fun _ => ?_) fun _ => ?_
        · exact fin (n2 - 1) (by omega)
        · refine lenLa rfl (dCa ?_)
          simp only [p2, sEq]
          refine ifB_of (fun _ => ?_) fun z => ?_
          · exact fin (n2 - 1) (by omega)
          · have z := of_decide_eq_false z
            rw [List.length_map] at z
            exact ⟨left', pcs, n2 - 1, some (.d x), some (.d (.str f)), rfl, J, fun _ => by omega, by omega⟩
  · rintro δ ⟨left, pcs, n1, q3, q4, rfl, I, hp, hn⟩
    have e5 : (rngD (5 : Int).toNat).length = 5 := rfl
    rw [e5] at I hp hn
    have pl := I.pl
    simp only [sRet]
    refine dTupa (dConsa (tupLa rfl (dConsa ?_)))
    refine c0 (n := n1) rfl ((e_l_shown _ _).mpr ⟨by omega, fun s n2 hs hn2 => ?_⟩)
    have ok : (Sty.mk pcs s).Ok := ⟨⟨hp (by omega), by show pcs.length ≤ 10; omega, I.ok, hs⟩, fun sh _ => noT_of (s := ⟨pcs, s⟩) (List.nodup_append.mp (I.nd sh)).2.1⟩
    exact ⟨mill (by simp), n2, rfl, ⟨_, rfl⟩, h ⟨pcs, s⟩ n2 ok (by omega)⟩
section
variable {P : Program} {w : World} {K : PySem.W.Frag} {mg : Str → Option Value} {base : Heap}
theorem ok_l_style (T : Txt K mg) (F : Df K mg "_law_style" s_l_style) (O_l_draw : Ok P w K mg base 2 "_law_draw" ["_law_reader_here", "_law_many"] (spR K p_l_draw)) (O_l_piece : Ok P w K mg base 5 "_law_piece" ["_law_reader_here", "_law_field"] (spR K p_l_piece)) (O_l_mark : Ok P w K mg base 4 "_law_mark" ["_law_reader_here"] (spR K p_l_mark)) (O_l_shown : Ok P w K mg base 4 "_law_shown" ["_law_reader_here"] (spR K p_l_shown)) : Ok P w K mg base 6 "_law_style" ["_law_reader_here"] (spR K p_l_style) := by
  obtain ⟨f, fd, F, g⟩ := F
  refine ⟨f, fd, fnR F sc_l_style (fun n a R h => len_l_style n a R h) (by decide) (ds := ds_l_style) (fun cdv A outer s H E hr => ?_) sem_l_style, g, F.kp, F.binds fun _ _ _ _ _ _ us hl => match us, hl with | [_], _ => rfl⟩
  exact (dss_cons (ds_set 1 (by decide) sc_l_style.nd (de_lst (da_cons (de_str e_names) (da_cons (de_str e_year) (da_cons (de_str e_title) (da_cons (de_str e_place) (da_cons (de_str e_volume) da_nil)))))))
    (dss_cons (ds_set 2 (by decide) sc_l_style.nd (de_lst da_nil))
    (dss_cons (ds_for PassesOwn.never rfl (di_rng (by rfl) T.m_range de_int) (dg_name 3 (by decide) sc_l_style.nd) (dss_cons (ds_set 4 (by decide) sc_l_style.nd (de_ml PySem.F.slot_list_pop PySem.F.type_list_pop mt_popAt lift_popAt (dv 1) (da_cons (dcallR O_l_draw (by exact hr.mono (by decide)) (by rfl) (da_cons (dv 0) (da_cons (de_callB call_len lift_len (by rfl) T.m_len (by decide +kernel) (da_cons (dv 1) da_nil)) da_nil))) da_nil)))
    (dss_cons (ds_if (dt_cmp op_gt (lift_iCmp (fun i j => decide (j < i))) (dcallR O_l_draw (by exact hr.mono (by decide)) (by rfl) (da_cons (dv 0) (da_cons de_int da_nil))) de_int (nomark _)) (dss_one (ds_expr (de_ml PySem.F.slot_list_append PySem.F.type_list_append mt_append lift_append (dv 2) (da_cons (dcallR O_l_piece (by exact hr.mono (by decide)) (by rfl) (da_cons (dv 0) (da_cons (dv 4) da_nil))) da_nil)))) dss_nil)
    (dss_one (ds_if (PW.pt (dw_or (dt_cmp op_gt (lift_iCmp (fun i j => decide (j < i))) (dcallR O_l_draw (by exact hr.mono (by decide)) (by rfl) (da_cons (dv 0) (da_cons de_int da_nil))) de_int (nomark _)) (dw_or1 (dt_cmp op_eq lift_eq (de_callB call_len lift_len (by rfl) T.m_len (by decide +kernel) (da_cons (dv 2) da_nil)) de_int (nomark _))))) (dss_one (ds_expr (de_ml PySem.F.slot_list_append PySem.F.type_list_append mt_append lift_append (dv 2) (da_cons (dcallR O_l_mark (by exact hr.mono (by decide)) (by rfl) (da_cons (dv 0) da_nil)) da_nil)))) dss_nil)))))
    (dss_one (ds_ret (de_tup (da_cons (de_callTy call_tupleF lift_tuple (by rfl) T.m_tuple (by decide +kernel) (da_cons (dv 2) da_nil)) (da_cons (dcallR O_l_shown (by exact hr.mono (by decide)) (by rfl) (da_cons (dv 0) da_nil)) da_nil))))))))
end
end Ib
set_option Elab.async false
set_option linter.all false
set_option autoImplicit false
set_option maxRecDepth 100000
set_option maxHeartbeats 4000000
/-! IbZ: defs that raise over data. -/
namespace Ib
open PySem PySem.Spec PyProof.Rows L2 TL
variable [Tabl]
/-- which arguments make a def raise: the class, the value it holds -/
abbrev Bad := Addr → List D → D → Prop
def spBad (K : PySem.W.Frag) (bad : Bad) : Sp := fun vs H _ E => Tbs H ∧ ∃ ds C x, Iss K H vs ds ∧ bad C ds x ∧ ∀ d v' H', Stp (fun _ => False) H H' → H' d = some (.xd [(("value" : Str), v')]) → Is K H' v' x → E (.ref C) (some d) H'
abbrev DZ := DEnv → (Addr → D → DEnv → Prop) → Prop
def upZ (K : PySem.W.Frag) (W : WX) (dz : DZ) : St → Hp → Prop := fun σ H => ∃ δ R, EnvOk K σ H δ ∧ dz δ R ∧ ∀ C x δ' d v' H', R C x δ' → AR K σ δ H δ' H' → H' d = some (.xd [(("value" : Str), v')]) → Is K H' v' x → W (.ref C) (some d) σ H'
@[simp] def zCall (bad : Bad) (da : DA) : DZ := fun δ R => da δ fun ws δ1 => match allD ws with
  | some ds => ∃ C x, bad C ds x ∧ R C x δ1
  | none => False
@[simp] def zSeq (de : DE) (dz : DZ) : DZ := fun δ R => de δ fun _ δ1 => dz δ1 R
@[simp] def zRaise (C : Addr) (de : DE) : DZ := fun δ R => de δ fun w δ1 => match w with
  | .d x => R C x δ1
  | _ => False
@[simp] def zIf (c : DT) (z1 z2 : DZ) : DZ := fun δ R => c δ fun k δ1 => ifB k (z1 δ1 R) (z2 δ1 R)
section
variable {X : Cx} {W : WX} {k : Nat} {f : Addr} {fd : FuncData} {ps : List Str} {x : Str} {p pos : Pos} {e : Expr} {es : List Expr} {bad : Bad} {da : DA}
/-- a call whose exception meets W at the caller's slots -/
theorem pe_callW {sp : Sp} {t : TA} (tk : Takes X W) (F : FnOk X.prog X.w X.K X.mg X.base (L2.CX X.prog X.w) k f fd ps sp) (hr : Room k X.A) (hg : Gl X x) (hm : X.mg x = some (.ref f)) (hk : PySem.W.keepIn X.K (.ref f) = true) (hb : Binds X.K fd ps [])
    (ha : PA X (e :: es) t) (hdb : (x == ("__debug__" : Str)) = false := by decide) (he : starEach (e :: es) X.env = (false, eval e X.env) :: starEach es X.env := by rfl) (hpl : (backTo pos (starEach es X.env)).any (·.1) = false := by rfl) :
    PE X (.Call (.Name x p) (e :: es) [] pos) (fun σ H Q => t σ H fun vs H1 => sp vs H1 Q fun cls d H' => W cls d σ H') := by
  refine ⟨fun pins s σ H Q I h => ?_⟩
  refine wpAny_Call_Name_kw (ld_glob I hg hm ?_ hdb)
  refine PySem.W.callWith_K (h₀ := X.base) I.ok.mod.kin hk (thn (ha.run pos pins s σ H _ I h) fun us s1 ⟨vs, H1, I1, r, q⟩ => ⟨I1.kIn, ?_⟩) he hpl
  have hl : (us ++ []).length = ps.length := by rw [List.append_nil, ← r.length]; exact F.len _ _ _ _ q
  have hb' := hb s1 us I1.kIn hl
  rw [List.append_nil] at hb'
  refine wpAny_call (codeAny_mono (F.run X.A X.stack s1 H1 ⟨us, []⟩ us vs Q (fun cls d H' => W cls d σ H') hr I1.env0 hb' r q) fun r' s' hq => ?_)
  cases r' with
  | error e => exact tk e s' (XE.of_call I1 (fun _ _ _ h => h) hq)
  | ok fl =>
    cases fl with
    | ret u => exact I1.after hq
    | next => exact False.elim hq
    | brk => exact False.elim hq
    | cont => exact False.elim hq
theorem pe_callZ (tk : Takes X W) (F : FnOk X.prog X.w X.K X.mg X.base (L2.CX X.prog X.w) k f fd ps (spBad X.K bad)) (hr : Room k X.A) (hg : Gl X x) (hm : X.mg x = some (.ref f)) (hk : PySem.W.keepIn X.K (.ref f) = true) (hb : Binds X.K fd ps [])
    (ha : PA X (e :: es) (upA X.K da)) (hdb : (x == ("__debug__" : Str)) = false := by decide) (he : starEach (e :: es) X.env = (false, eval e X.env) :: starEach es X.env := by rfl) (hpl : (backTo pos (starEach es X.env)).any (·.1) = false := by rfl) :
    PE X (.Call (.Name x p) (e :: es) [] pos) (fun σ H _ => upZ X.K W (zCall bad da) σ H) :=
  PE.imp (pe_callW tk F hr hg hm hk hb ha hdb he hpl) fun σ H Q ⟨δ, R, E, h, q⟩ => ⟨δ, _, E, h, fun ws δ1 vs H1 h1 a1 t1 => by
    cases e1 : allD ws with
    | none => simp only [e1] at h1
    | some ds =>
      simp only [e1] at h1
      obtain ⟨C, y, hb, hR⟩ := h1
      exact ⟨a1.env.tab, ds, C, y, allD_iss t1 e1, hb, fun d v' H' hs hd hi => q _ _ _ _ _ _ hR (a1.trans (AR.stp a1.env hs)) hd hi⟩⟩
theorem pss_stop {st : Stmt} {rest : List Stmt} {t : TS} (h : PS X st t) : PSs X (st :: rest) (fun D σ H => t { nx := fun _ _ => False, rt := D.rt, bk := D.bk, ct := D.ct } σ H) := by
  refine ⟨fun pins s σ H D I h1 => ?_⟩
  refine wpAny_execs_cons (thn (h.run pins s σ H _ I h1) fun f s1 q => ?_)
  cases f with
  | next =>
    obtain ⟨_, _, _, q⟩ := q
    exact q.elim
  | ret v => exact q
  | brk => exact q
  | cont => exact q
variable {dz dz1 dz2 : DZ} {st : Stmt} {rest b1 b2 : List Stmt} {de : DE} {dt : DT}
theorem psz_expr (h : PE X e (fun σ H _ => upZ X.K W dz σ H)) (hs : swapsWith e none pos.line X.env = pure false := by rfl) : PS X (.Expr e pos) (fun _ σ H => upZ X.K W dz σ H) := PS.imp (ps_expr h hs) fun D σ H h => h
theorem psz_ret (h : PE X e (fun σ H _ => upZ X.K W dz σ H)) : PS X (.Return (some e) pos) (fun _ σ H => upZ X.K W dz σ H) := PS.imp (ps_ret h) fun D σ H h => h
theorem pssz_stop (h : PS X st (fun _ σ H => upZ X.K W dz σ H)) : PSs X (st :: rest) (fun _ σ H => upZ X.K W dz σ H) := PSs.imp (pss_stop h) fun D σ H h => h
theorem up_seqZ {K : PySem.W.Frag} {σ : St} {H : Hp} (h : upZ K W (zSeq de dz) σ H) : up K de σ H fun _ H1 => upZ K W dz σ H1 := by
  obtain ⟨δ, R, E, h, q⟩ := h
  exact ⟨δ, _, E, h, fun w δ' v H' hw a t => ⟨δ', R, a.env, hw, fun C x δ2 d v' H2 hR a2 => q C x δ2 d v' H2 hR (a.trans a2)⟩⟩
/-- a statement that ends well, then one that raises -/
theorem pssz_expr (h : PE X e (up X.K de)) (hr : PSs X rest (fun _ σ H => upZ X.K W dz σ H)) (hs : swapsWith e none pos.line X.env = pure false := by rfl) : PSs X (.Expr e pos :: rest) (fun _ σ H => upZ X.K W (zSeq de dz) σ H) :=
  PSs.imp (pss_cons (ps_expr h hs) hr) fun D σ H h => up_seqZ h
theorem psz_if {c : Expr} (hc : PT X c (upT X.K dt)) (ha : PSs X b1 (fun _ σ H => upZ X.K W dz1 σ H)) (hb : PSs X b2 (fun _ σ H => upZ X.K W dz2 σ H)) : PS X (.If c b1 b2 pos) (fun _ σ H => upZ X.K W (zIf dt dz1 dz2) σ H) :=
  PS.imp (ps_if hc ha hb) fun D σ H ⟨δ, R, E, h, q⟩ => ⟨δ, _, E, h, fun k δ1 H1 h1 a1 => by
    cases k with
    | true => exact ⟨δ1, R, a1.env, h1, fun C x δ2 d v' H2 hR a2 => q C x δ2 d v' H2 hR (a1.trans a2)⟩
    | false => exact ⟨δ1, R, a1.env, h1, fun C x δ2 d v' H2 hR a2 => q C x δ2 d v' H2 hR (a1.trans a2)⟩⟩
/-- if test: raise .., the test true -/
@[simp] def zGuard (c : DT) (z : DZ) : DZ := fun δ R => c δ fun k δ1 => k = true ∧ z δ1 R
theorem psz_guard {c : Expr} (hc : PT X c (upT X.K dt)) (ha : PS X st (fun _ σ H => upZ X.K W dz σ H)) : PSs X (.If c [st] [] pos :: rest) (fun _ σ H => upZ X.K W (zGuard dt dz) σ H) :=
  PSs.imp (pss_stop (ps_if hc (pss_one ha) pss_nil)) fun D σ H ⟨δ, R, E, h, q⟩ => ⟨δ, _, E, h, fun k δ1 H1 h1 a1 => by
    obtain ⟨rfl, h1⟩ := h1
    exact ⟨δ1, R, a1.env, h1, fun C x δ2 d v' H2 hR a2 => q C x δ2 d v' H2 hR (a1.trans a2)⟩⟩
/-- raise C(e) -/
theorem psz_raise {C fI : Addr} (hc : X.calm = true) (tk : Takes X W) (T : ErrT X.prog X.K C fI fd) (hsu : X.mg "super" = none) (htop : (X.prog.main.scope.names.lookup ("super" : Str)).isSome = false) (hb : Binds X.K fd ["self", "value"] []) (hr : Room (k + 2) X.A) (hg : Gl X x) (hm : X.mg x = some (.ref C)) (ha : PE X e (up X.K de))
    (hdb : (x == ("__debug__" : Str)) = false := by decide) (he : starEach [e] X.env = (false, eval e X.env) :: starEach [] X.env := by rfl) (hpl : (backTo pos (starEach [] X.env)).any (·.1) = false := by rfl) {rp : Pos} :
    PS X (.Raise (some (.Call (.Name x p) [e] [] pos)) none rp) (fun _ σ H => upZ X.K W (zRaise C de) σ H) :=
  PS.imp (ps_raise hc tk (pmk_oex T.ox T.iC T.tI (ini_ok (k := k) T hsu htop) hr hb .nil passL hg hm (pa_cons ha pa_nil he) hdb he hpl)) fun D σ H ⟨δ, R, E, h, q⟩ => by
    refine ⟨δ, _, E, h, fun w δ1 v H1 h1 a1 t1 => ?_⟩
    cases w with
    | d y =>
      refine ⟨by simp, fun a ha => ⟨a, v, rfl, by rw [upd_same], fun dx hdx hne => ⟨rfl, dx, [(("value" : Str), v)], by rw [upd_same], by rw [upd_ne hne, upd_same], by rwa [upd_ne hne] at hdx, ?_⟩⟩⟩
      have hdx : H1 dx = none := by rwa [upd_ne hne] at hdx
      have same : Same H1 (upd (del (upd (upd (upd H1 a (exo a C none)) dx (exd dx [(("value" : Str), v)])) a (exo a C (some dx))) a) dx (.xd [(("value" : Str), v)])) := fun b o e => by
        have n1 : b ≠ a := fun z => by rw [z, ha] at e; cases e
        have n2 : b ≠ dx := fun z => by rw [z, hdx] at e; cases e
        rw [upd_ne n2, del_ne n1, upd_ne n1, upd_ne n2, upd_ne n1]
        exact e
      exact q _ _ _ _ _ _ h1 (a1.trans ⟨.refl _, Stp.same same, a1.env.same same⟩) (by rw [upd_same]) ((Stp.same (m := fun _ => False) same).is (fun _ z => z.elim) t1)
    | _ => exact h1.elim
end
section
variable {P : Program} {w : World} {K : PySem.W.Frag} {mg : Str → Option Value} {base : Heap}
/-- a def that raises -/
theorem fnZ {x qual : Str} {st : Stmt} {f : Addr} {fd : FuncData} {N ps : List Str} {k : Nat} {bad : Bad} {dz : DZ} (F : Fun K x qual st f fd) (S : FnScope N ps (defScope st)) (hl : ∀ C a y, bad C a y → a.length = ps.length) (hle : ps.length ≤ N.length)
    (hb : ∀ (cdv : Value) (A : Around) (outer : List PySem.Env) (s : Shared) (H : Hp) (E : XK), Room k (A.deeper (envOfC qual (defScope st) s.heap.objs.size f cdv)) → ∀ X, X = cxOf (L2.CX P w) P w K mg base N qual (defScope st) f cdv A outer s H E → Takes X (fun cls d _ H => E cls d H) →
      PSs X (defBody st) (fun _ σ H => upZ K (fun cls d _ H => E cls d H) dz σ H))
    (hs : ∀ C a y, bad C a y → dz (slots N (a.map U.d)) fun C' y' _ => C' = C ∧ y' = y) : FnOk P w K mg base (L2.CX P w) (k + 1) f fd ps (spBad K bad) :=
  F.okX S (fun vs H Q E ⟨_, a, C, y, hi, hp, _⟩ => by rw [hi.length]; exact hl C a y hp) fun cdv A outer s H vs Q E hr ⟨tb, a, C, y, hi, hp, q⟩ => by
    refine ⟨_, hb cdv A outer s H E hr _ rfl (takes_of rfl rfl rfl rfl), ?_⟩
    have e0 := start_env (N := N) tb hi (by rw [hl C a y hp]; exact hle)
    have nod : ∀ b, ¬ M (L2.start N vs) (slots N (a.map U.d)) b := fun b m => M_data (fun i w e => by
      have e := slots_get e
      rw [List.getElem?_map] at e
      cases q : a[i]? with
      | none => rw [q] at e; cases e
      | some d => rw [q] at e; cases e; exact ⟨_, rfl⟩) m
    exact ⟨_, _, e0, hs C a y hp, fun C' x' δ' d v' H' ⟨e1, e2⟩ ar hd hi' => by subst e1 e2; exact q d v' H' (ar.st.weak nod) hd hi'⟩
theorem FnOk.or {CX : CXT} {k : Nat} {f : Addr} {fd : FuncData} {ps : List Str} {b1 b2 : Bad} (F1 : FnOk P w K mg base CX k f fd ps (spBad K b1)) (F2 : FnOk P w K mg base CX k f fd ps (spBad K b2)) : FnOk P w K mg base CX k f fd ps (spBad K fun C a y => b1 C a y ∨ b2 C a y) where
  len := fun vs H Q E ⟨tb, ds, C, x, hi, hb, q⟩ => by
    rcases hb with hb | hb
    · exact F1.len vs H Q E ⟨tb, ds, C, x, hi, hb, q⟩
    · exact F2.len vs H Q E ⟨tb, ds, C, x, hi, hb, q⟩
  run := fun A outer s H args us vs Q E hr e0 hbn rv ⟨tb, ds, C, x, hi, hb, q⟩ => by
    rcases hb with hb | hb
    · exact F1.run A outer s H args us vs Q E hr e0 hbn rv ⟨tb, ds, C, x, hi, hb, q⟩
    · exact F2.run A outer s H args us vs Q E hr e0 hbn rv ⟨tb, ds, C, x, hi, hb, q⟩
end
end Ib
set_option Elab.async false
set_option linter.all false
set_option autoImplicit false
set_option maxRecDepth 100000
set_option maxHeartbeats 4000000
/-! IbM10: the program's defs where they raise. -/
namespace Ib
open PySem PySem.Spec PyProof.Rows L2 TL PySem.W
variable [Tabl]
def OkZ (P : Program) (w : World) (K : PySem.W.Frag) (mg : Str → Option Value) (base : Heap) (k : Nat) (x : Str) (ps : List Str) (bad : Bad) : Prop :=
  ∃ f fd, FnOk P w K mg base (L2.CX P w) k f fd ps (spBad K bad) ∧ mg x = some (.ref f) ∧ PySem.W.keepIn K (.ref f) = true ∧ L2.Binds K fd ps []
/-- the class behind the name x -/
structure Er (P : Program) (K : PySem.W.Frag) (mg : Str → Option Value) (x : Str) (C : Addr) : Prop where
  at_ : mg x = some (.ref C)
  ini : ∃ fI fd, ErrT P K C fI fd ∧ L2.Binds K fd ["self", "value"] []
/-- super is the builtin -/
structure Sup (P : Program) (mg : Str → Option Value) : Prop where
  g : mg "super" = none
  t : (P.main.scope.names.lookup ("super" : Str)).isSome = false
section
variable {X : Cx} {W : WX} {k : Nat} {ps : List Str} {x y : Str} {p pos : Pos} {e e2 : Expr} {es : List Expr} {bad : Bad} {da : DA} {de : DE} {dz : DZ}
theorem dcallZ (F : OkZ X.prog X.w X.K X.mg X.base k x ps bad) (tk : Takes X W) (hr : Room k X.A) (hg : Gl X x) (ha : PA X (e :: es) (upA X.K da)) (hdb : (x == ("__debug__" : Str)) = false := by decide)
    (he : starEach (e :: es) X.env = (false, eval e X.env) :: starEach es X.env := by rfl) (hpl : (backTo pos (starEach es X.env)).any (·.1) = false := by rfl) : PE X (.Call (.Name x p) (e :: es) [] pos) (fun σ H _ => upZ X.K W (zCall bad da) σ H) := by
  obtain ⟨f, fd, F, hm, hk, hb⟩ := F
  exact pe_callZ tk F hr hg hm hk hb ha hdb he hpl
/-- f(e, e2), e2 raises -/
theorem dcall2Z {sp : Sp} (F : Ok X.prog X.w X.K X.mg X.base k x ps sp) (hr : Room k X.A) (hg : Gl X x) (h1 : PE X e (up X.K de)) (h2 : PE X e2 (fun σ H _ => upZ X.K W dz σ H)) (hdb : (x == ("__debug__" : Str)) = false := by decide)
    (he : starEach [e, e2] X.env = (false, eval e X.env) :: starEach [e2] X.env := by rfl) (he2 : starEach [e2] X.env = (false, eval e2 X.env) :: starEach [] X.env := by rfl) (hpl : (backTo pos (starEach [e2] X.env)).any (·.1) = false := by rfl) : PE X (.Call (.Name x p) [e, e2] [] pos) (fun σ H _ => upZ X.K W (zSeq de dz) σ H) := by
  obtain ⟨f, fd, F, hm, hk, hb⟩ := F
  exact PE.imp (pe_call F hr hg hm hk hb .nil pass0 (pa_cons h1 (pa_cons h2 pa_nil he2) he) hdb he hpl) fun σ H Q h => up_seqZ h
theorem dz_raise {C : Addr} (hc : X.calm = true) (tk : Takes X W) (T : Er X.prog X.K X.mg x C) (S : Sup X.prog X.mg) (hr : Room 2 X.A) (hg : Gl X x) (ha : PE X e (up X.K de))
    (hdb : (x == ("__debug__" : Str)) = false := by decide) (he : starEach [e] X.env = (false, eval e X.env) :: starEach [] X.env := by rfl) (hpl : (backTo pos (starEach [] X.env)).any (·.1) = false := by rfl) {rp : Pos} :
    PS X (.Raise (some (.Call (.Name x p) [e] [] pos)) none rp) (fun _ σ H => upZ X.K W (zRaise C de) σ H) := by
  obtain ⟨fI, fd, T1, hb⟩ := T.ini
  exact psz_raise (k := 0) hc tk T1 S.g S.t hb hr hg T.at_ ha hdb he hpl
end
def badN (C : Addr) (ok : D → Bool) : Bad := fun C' a y => C' = C ∧ a = [y] ∧ Sm y ∧ ok y = false
def badES (C : Addr) : Bad := fun C' a y => C' = C ∧ ∃ b, a = [y, b] ∧ Sm y ∧ isSty y = false
def badEB (C : Addr) : Bad := fun C' a y => C' = C ∧ ∃ s : Sty, a = [s.toD, y] ∧ Sm s.toD ∧ s.Ok ∧ Sm y ∧ isBook y = false
def badLS (C : Addr) : Bad := fun C' a y => C' = C ∧ ∃ b l, a = [y, b, l] ∧ Sm y ∧ isSty y = false
def badLB (C : Addr) : Bad := fun C' a y => C' = C ∧ ∃ (s : Sty) (l : D), a = [s.toD, y, l] ∧ Sm s.toD ∧ s.Ok ∧ Sm y ∧ isList y = false
def badLL (C : Addr) : Bad := fun C' a y => C' = C ∧ ∃ (s : Sty) (b : D), a = [s.toD, b, y] ∧ Sm s.toD ∧ s.Ok ∧ Sm b ∧ isList b = true ∧ Sm y ∧ isLets y = false
section
variable {P : Program} {w : World} {K : PySem.W.Frag} {mg : Str → Option Value} {base : Heap}
theorem bad_need_book {C : Addr} (F : Df K mg "need_book" s_need_book) (S : Sup P mg) (T : Er P K mg "InvalidBook" C) (O : Ok P w K mg base 4 "is_book" ["value"] (spP K p_is_book)) : OkZ P w K mg base 5 "need_book" ["value"] (badN C isBook) := by
  obtain ⟨f, fd, F, g⟩ := F
  refine ⟨f, fd, fnZ F sc_need_book (fun C a y h => by obtain ⟨_, rfl, _⟩ := h; rfl) (by decide) (dz := zGuard (dNot (dB (dCallP p_is_book (dCons (dVar 0) dNil)))) (zRaise C (dVar 0))) (fun cdv A outer s H E hr X hX tk => ?_) (fun C' a y h => ?_), g, F.kp, F.binds fun _ _ _ _ _ _ us hl => match us, hl with | [_], _ => rfl⟩
  · subst hX
    exact psz_guard (dt_not (dt_val (dcall O (by exact hr.mono (by decide)) (by rfl) (da_cons (dv 0) da_nil)))) (dz_raise rfl tk T S (by exact hr.mono (by decide)) (by rfl) (dv 0))
  · obtain ⟨rfl, rfl, h1, h2⟩ := h
    simp [h2]
    exact h1
theorem bad_need_list {C : Addr} (F : Df K mg "need_list" s_need_list) (S : Sup P mg) (T : Er P K mg "InvalidList" C) (O : Ok P w K mg base 5 "is_list" ["value"] (spP K p_is_list)) : OkZ P w K mg base 6 "need_list" ["value"] (badN C isList) := by
  obtain ⟨f, fd, F, g⟩ := F
  refine ⟨f, fd, fnZ F sc_need_list (fun C a y h => by obtain ⟨_, rfl, _⟩ := h; rfl) (by decide) (dz := zGuard (dNot (dB (dCallP p_is_list (dCons (dVar 0) dNil)))) (zRaise C (dVar 0))) (fun cdv A outer s H E hr X hX tk => ?_) (fun C' a y h => ?_), g, F.kp, F.binds fun _ _ _ _ _ _ us hl => match us, hl with | [_], _ => rfl⟩
  · subst hX
    exact psz_guard (dt_not (dt_val (dcall O (by exact hr.mono (by decide)) (by rfl) (da_cons (dv 0) da_nil)))) (dz_raise rfl tk T S (by exact hr.mono (by decide)) (by rfl) (dv 0))
  · obtain ⟨rfl, rfl, h1, h2⟩ := h
    simp [h2]
    exact h1
theorem bad_need_style {C : Addr} (F : Df K mg "need_style" s_need_style) (S : Sup P mg) (T : Er P K mg "InvalidStyle" C) (O : Ok P w K mg base 6 "is_style" ["value"] (spP K p_is_style)) : OkZ P w K mg base 7 "need_style" ["value"] (badN C isSty) := by
  obtain ⟨f, fd, F, g⟩ := F
  refine ⟨f, fd, fnZ F sc_need_style (fun C a y h => by obtain ⟨_, rfl, _⟩ := h; rfl) (by decide) (dz := zGuard (dNot (dB (dCallP p_is_style (dCons (dVar 0) dNil)))) (zRaise C (dVar 0))) (fun cdv A outer s H E hr X hX tk => ?_) (fun C' a y h => ?_), g, F.kp, F.binds fun _ _ _ _ _ _ us hl => match us, hl with | [_], _ => rfl⟩
  · subst hX
    exact psz_guard (dt_not (dt_val (dcall O (by exact hr.mono (by decide)) (by rfl) (da_cons (dv 0) da_nil)))) (dz_raise rfl tk T S (by exact hr.mono (by decide)) (by rfl) (dv 0))
  · obtain ⟨rfl, rfl, h1, h2⟩ := h
    simp [h2]
    exact h1
theorem bad_need_letters {C : Addr} (F : Df K mg "need_letters" s_need_letters) (S : Sup P mg) (T : Er P K mg "InvalidLetters" C) (O : Ok P w K mg base 3 "is_letters" ["value"] (spP K p_is_letters)) : OkZ P w K mg base 4 "need_letters" ["value"] (badN C isLets) := by
  obtain ⟨f, fd, F, g⟩ := F
  refine ⟨f, fd, fnZ F sc_need_letters (fun C a y h => by obtain ⟨_, rfl, _⟩ := h; rfl) (by decide) (dz := zGuard (dNot (dB (dCallP p_is_letters (dCons (dVar 0) dNil)))) (zRaise C (dVar 0))) (fun cdv A outer s H E hr X hX tk => ?_) (fun C' a y h => ?_), g, F.kp, F.binds fun _ _ _ _ _ _ us hl => match us, hl with | [_], _ => rfl⟩
  · subst hX
    exact psz_guard (dt_not (dt_val (dcall O (by exact hr.mono (by decide)) (by rfl) (da_cons (dv 0) da_nil)))) (dz_raise rfl tk T S (by exact hr.mono (by decide)) (by rfl) (dv 0))
  · obtain ⟨rfl, rfl, h1, h2⟩ := h
    simp [h2]
    exact h1
theorem bad_set_entryS {C : Addr} (F : Df K mg "set_entry" s_set_entry) (O : OkZ P w K mg base 7 "need_style" ["value"] (badN C isSty)) : OkZ P w K mg base 8 "set_entry" ["style", "book"] (badES C) := by
  obtain ⟨f, fd, F, g⟩ := F
  refine ⟨f, fd, fnZ F sc_set_entry (fun C a y h => by obtain ⟨_, b, rfl, _⟩ := h; rfl) (by decide) (dz := zCall (badN C isSty) (dCons (dVar 0) dNil)) (fun cdv A outer s H E hr X hX tk => ?_) (fun C' a y h => ?_), g, F.kp, F.binds fun _ _ _ _ _ _ us hl => match us, hl with | [_, _], _ => rfl⟩
  · subst hX
    exact pssz_stop (psz_expr (dcallZ O tk (by exact hr.mono (by decide)) (by rfl) (da_cons (dv 0) da_nil)))
  · obtain ⟨rfl, b, rfl, h1, h2⟩ := h
    simp
    exact ⟨rfl, rfl, h1, h2⟩
theorem bad_set_entryB {C : Addr} (F : Df K mg "set_entry" s_set_entry) (OS : Ok P w K mg base 7 "need_style" ["value"] (spP K p_need_style)) (OE : Ok P w K mg base 7 "entry_of" ["style", "book"] (spP K p_entry_of)) (O : OkZ P w K mg base 5 "need_book" ["value"] (badN C isBook)) : OkZ P w K mg base 8 "set_entry" ["style", "book"] (badEB C) := by
  obtain ⟨f, fd, F, g⟩ := F
  refine ⟨f, fd, fnZ F sc_set_entry (fun C a y h => by obtain ⟨_, b, rfl, _⟩ := h; rfl) (by decide) (dz := zSeq (dCallP p_need_style (dCons (dVar 0) dNil)) (zSeq (dVar 0) (zCall (badN C isBook) (dCons (dVar 1) dNil)))) (fun cdv A outer s H E hr X hX tk => ?_) (fun C' a y h => ?_), g, F.kp, F.binds fun _ _ _ _ _ _ us hl => match us, hl with | [_, _], _ => rfl⟩
  · subst hX
    exact pssz_expr (dcall OS (by exact hr.mono (by decide)) (by rfl) (da_cons (dv 0) da_nil)) (pssz_stop (psz_ret (dcall2Z OE (by exact hr.mono (by decide)) (by rfl) (dv 0) (dcallZ O tk (by exact hr.mono (by decide)) (by rfl) (da_cons (dv 1) da_nil)))))
  · obtain ⟨rfl, s, rfl, ss, ok, h1, h2⟩ := h
    simp
    exact ⟨ss, (isSty_iff _).mpr ⟨s, rfl, ok⟩, rfl, rfl, h1, h2⟩
theorem bad_set_listS {C : Addr} (F : Df K mg "set_list" s_set_list) (O : OkZ P w K mg base 7 "need_style" ["value"] (badN C isSty)) : OkZ P w K mg base 8 "set_list" ["style", "books", "letters"] (badLS C) := by
  obtain ⟨f, fd, F, g⟩ := F
  refine ⟨f, fd, fnZ F sc_set_list (fun C a y h => by obtain ⟨_, b, l, rfl, _⟩ := h; rfl) (by decide) (dz := zCall (badN C isSty) (dCons (dVar 0) dNil)) (fun cdv A outer s H E hr X hX tk => ?_) (fun C' a y h => ?_), g, F.kp, F.binds fun _ _ _ _ _ _ us hl => match us, hl with | [_, _, _], _ => rfl⟩
  · subst hX
    exact pssz_stop (psz_expr (dcallZ O tk (by exact hr.mono (by decide)) (by rfl) (da_cons (dv 0) da_nil)))
  · obtain ⟨rfl, b, l, rfl, h1, h2⟩ := h
    simp
    exact ⟨rfl, rfl, h1, h2⟩
theorem bad_set_listB {C : Addr} (F : Df K mg "set_list" s_set_list) (OS : Ok P w K mg base 7 "need_style" ["value"] (spP K p_need_style)) (O : OkZ P w K mg base 6 "need_list" ["value"] (badN C isList)) : OkZ P w K mg base 8 "set_list" ["style", "books", "letters"] (badLB C) := by
  obtain ⟨f, fd, F, g⟩ := F
  refine ⟨f, fd, fnZ F sc_set_list (fun C a y h => by obtain ⟨_, b, l, rfl, _⟩ := h; rfl) (by decide) (dz := zSeq (dCallP p_need_style (dCons (dVar 0) dNil)) (zCall (badN C isList) (dCons (dVar 1) dNil))) (fun cdv A outer s H E hr X hX tk => ?_) (fun C' a y h => ?_), g, F.kp, F.binds fun _ _ _ _ _ _ us hl => match us, hl with | [_, _, _], _ => rfl⟩
  · subst hX
    exact pssz_expr (dcall OS (by exact hr.mono (by decide)) (by rfl) (da_cons (dv 0) da_nil)) (pssz_stop (psz_expr (dcallZ O tk (by exact hr.mono (by decide)) (by rfl) (da_cons (dv 1) da_nil))))
  · obtain ⟨rfl, s, l, rfl, ss, ok, h1, h2⟩ := h
    simp
    exact ⟨ss, (isSty_iff _).mpr ⟨s, rfl, ok⟩, rfl, rfl, h1, h2⟩
theorem bad_set_listL {C : Addr} (F : Df K mg "set_list" s_set_list) (OS : Ok P w K mg base 7 "need_style" ["value"] (spP K p_need_style)) (OB : Ok P w K mg base 6 "need_list" ["value"] (spP K p_need_list)) (O : OkZ P w K mg base 4 "need_letters" ["value"] (badN C isLets)) : OkZ P w K mg base 8 "set_list" ["style", "books", "letters"] (badLL C) := by
  obtain ⟨f, fd, F, g⟩ := F
  refine ⟨f, fd, fnZ F sc_set_list (fun C a y h => by obtain ⟨_, b, l, rfl, _⟩ := h; rfl) (by decide) (dz := zSeq (dCallP p_need_style (dCons (dVar 0) dNil)) (zSeq (dCallP p_need_list (dCons (dVar 1) dNil)) (zCall (badN C isLets) (dCons (dVar 2) dNil)))) (fun cdv A outer s H E hr X hX tk => ?_) (fun C' a y h => ?_), g, F.kp, F.binds fun _ _ _ _ _ _ us hl => match us, hl with | [_, _, _], _ => rfl⟩
  · subst hX
    exact pssz_expr (dcall OS (by exact hr.mono (by decide)) (by rfl) (da_cons (dv 0) da_nil)) (pssz_expr (dcall OB (by exact hr.mono (by decide)) (by rfl) (da_cons (dv 1) da_nil)) (pssz_stop (psz_expr (dcallZ O tk (by exact hr.mono (by decide)) (by rfl) (da_cons (dv 2) da_nil)))))
  · obtain ⟨rfl, s, l, rfl, ss, ok, h3, h4, h1, h2⟩ := h
    simp only [zSeq, zCall, dCallP, dCons, dVar, dNil]
    refine (e_need_style _ _).mpr ⟨ss, (isSty_iff _).mpr ⟨s, rfl, ok⟩, (e_need_list _ _).mpr ⟨h3, h4, ?_⟩⟩
    exact ⟨_, _, ⟨rfl, rfl, h1, h2⟩, rfl, rfl⟩
end
end Ib
set_option Elab.async false
set_option linter.all false
set_option autoImplicit false
set_option maxRecDepth 100000
set_option maxHeartbeats 4000000
/-! IbM22: the law's refused. -/
namespace Ib
open PySem PySem.Spec PyProof.Rows L2 TL PySem.W
variable [Tabl]
/-! ### data of small depth -/
def Fi : Nat → D → Prop
  | _, .str l => ∀ c ∈ l, c < 128
  | 0, .tup _ => False
  | n + 1, .tup xs => ∀ x ∈ xs, Fi n x
  | _, _ => True
theorem strOk_of {l : Cs} (h : ∀ c ∈ l, c < 128) : PyData.strOk (S l) = true := by
  unfold PyData.strOk
  rw [← Array.all_toList]
  simp only [List.all_eq_true, decide_eq_true_eq]
  intro c hc
  have := h c (by simpa using hc)
  omega
theorem canLayAll_of : ∀ {xs : List PyData}, (∀ x ∈ xs, PyData.canLay0 x = true) → PyData.canLayAll0 xs = true
  | [], _ => by simp [PyData.canLayAll0]
  | x :: xs, h => by
    rw [PyData.canLayAll0, h x (by simp), canLayAll_of fun y hy => h y (by simp [hy])]
    rfl
theorem Fi_lay : ∀ (n : Nat) (d : D), Fi n d → PyData.canLay0 d.pd = true ∧ d.pd.depth ≤ n
  | _, .non, _ => by simp [D.pd, PyData.canLay0, PyData.depth]
  | _, .bl _, _ => by simp [D.pd, PyData.canLay0, PyData.depth]
  | _, .int _, _ => by simp [D.pd, PyData.canLay0, PyData.depth]
  | n, .str l, h => by
    have h : ∀ c ∈ l, c < 128 := by cases n <;> exact h
    rw [D.pd, PyData.canLay0, PyData.depth]
    exact ⟨strOk_of h, Nat.zero_le _⟩
  | 0, .tup xs, h => h.elim
  | n + 1, .tup xs, h => by
    have h : ∀ x ∈ xs, Fi n x := h
    rw [pd_tup, PyData.canLay0, PyData.depth]
    refine ⟨canLayAll_of fun y hy => ?_, Nat.succ_le_succ (depthAll_le fun y hy => ?_)⟩
    · obtain ⟨x, hx, rfl⟩ := List.mem_map.mp hy
      exact (Fi_lay n x (h x hx)).1
    · obtain ⟨x, hx, rfl⟩ := List.mem_map.mp hy
      exact (Fi_lay n x (h x hx)).2
theorem Fi_shp {n : Nat} {d : D} (h : Fi n d) (hn : n ≤ 60) : shp d := by
  obtain ⟨h1, h2⟩ := Fi_lay n d h
  unfold shp SeqAt.shaped
  rw [h1, decide_eq_true (by omega)]
  rfl
theorem Fi_shps {n : Nat} {xs : List D} (h : ∀ x ∈ xs, Fi n x) (hn : n ≤ 60) : SeqAt.shaped (.list (D.pds xs)) = true := by
  unfold SeqAt.shaped
  rw [pds_map, PyData.canLay0, PyData.depth]
  rw [canLayAll_of (xs := xs.map D.pd) fun y hy => by
    obtain ⟨x, hx, rfl⟩ := List.mem_map.mp hy
    exact (Fi_lay n x (h x hx)).1]
  have := depthAll_le (n := n) (xs := xs.map D.pd) fun y hy => by
    obtain ⟨x, hx, rfl⟩ := List.mem_map.mp hy
    exact (Fi_lay n x (h x hx)).2
  rw [decide_eq_true (by omega)]
  rfl
theorem Fi_mono : ∀ {m n : Nat} {d : D}, m ≤ n → Fi m d → Fi n d
  | m, n, .str l, _, h => by cases m <;> cases n <;> exact h
  | _, n, .non, _, _ => by cases n <;> trivial
  | _, n, .bl _, _, _ => by cases n <;> trivial
  | _, n, .int _, _, _ => by cases n <;> trivial
  | 0, _, .tup _, _, h => h.elim
  | m + 1, 0, .tup _, hm, _ => absurd hm (by omega)
  | m + 1, n + 1, .tup xs, hm, h => fun x hx => Fi_mono (by omega) ((show ∀ x ∈ xs, Fi m x from h) x hx)
mutual
theorem eqv_self : ∀ d : D, PyData.eqv d.pd d.pd = true
  | .non => by simp [D.pd, PyData.eqv]
  | .bl _ => by simp [D.pd, PyData.eqv]
  | .int _ => by simp [D.pd, PyData.eqv]
  | .str _ => by simp [D.pd, PyData.eqv]
  | .tup xs => by
    rw [D.pd, PyData.eqv]
    exact eqvs_self xs
theorem eqvs_self : ∀ ds : List D, PyData.eqvAll (D.pds ds) (D.pds ds) = true
  | [] => by simp [D.pds, PyData.eqvAll]
  | x :: xs => by
    rw [D.pds, PyData.eqvAll, eqv_self x, eqvs_self xs]
    rfl
end
/-! ### the suites -/
structure ErrC (K : PySem.W.Frag) (C CE : Addr) : Prop where
  x : ExcC K C
  f : XfC K C
  v : findIn K (.ref C) "value" = some none
  k : PySem.W.kitOne K (.ref C) (.ref CE) = some true
def tsuite (K : PySem.W.Frag) (CE : Addr) (tx : Cs) (j : Nat) (a : Addr) (cls : Value) (d : Option Addr) : TS := fun D σ H => ∃ (C dd : Addr) (v v' : V) (x : Ib.D), cls = .ref C ∧ d = some dd ∧ ErrC K C CE ∧ H dd = some (.xd [(("value" : Str), v')]) ∧ Is K H v' x ∧ shp x ∧
  σ[5]? = some (some (.ref a)) ∧ σ[j]? = some (some v) ∧ Is K H v x ∧ ∀ p o, H p = none → Pl o → D.rt (.ref p) (upd H p (.frz o (.tup [.str (S tx), .bl true])))
theorem PSs.ex {X : Cx} {ι : Type} {b : List Stmt} {P : ι → Prop} {t : ι → TS} (h : ∀ i, P i → PSs X b (t i)) : PSs X b (fun D σ H => ∃ i, P i ∧ t i D σ H) := ⟨fun pins s σ H D I ⟨i, p, q⟩ => (h i p).run pins s σ H D I q⟩
section
variable {P : Program} {w : World} {K : PySem.W.Frag} {mg : Str → Option Value} {base : Heap}
abbrev XR (P : Program) (w : World) (K : PySem.W.Frag) (mg : Str → Option Value) (base : Heap) (f : Addr) (cdv : Value) (A : Around) (outer : List PySem.Env) (s : Shared) (H : Hp) (E : XK) : Cx := (cxOf CX0 P w K mg base N_l_refused "_law_refused" (defScope s_l_refused) f cdv A outer s H E).nox
theorem suite_d {f : Addr} {cdv : Value} {A : Around} {outer : List PySem.Env} {s : Shared} {H : Hp} {E : XK} {CE : Addr} {tx vx : Str} {c : Cs} {j : Nat} (T : Txt K mg) (hce : mg "CiteError" = some (.ref CE)) (hu : (XR P w K mg base f cdv A outer s H E).A.units + 64 < cLine) (hx : tx = S c)
    (hN : (XR P w K mg base f cdv A outer s H E).N[j]? = some vx) (hv : Vis (XR P w K mg base f cdv A outer s H E).env.scope vx) (hd : (vx == ("__debug__" : Str)) = false) (hcd : (vx == ("__classdict__" : Str)) = false) (x1) (j0 : Nat) (p0 p1 p2 p3 p4 p5 p6 p7 p8 p9 p10 p11 : Pos)
    (a : Addr) (oe : Obj) (cls : Value) (d : Option Addr) (pn : List (Addr × Obj)) (hz : Zc cls d oe) (hf : ∃ vs, oe.data = .fields vs) :
    PSs ((XR P w K mg base f cdv A outer s H E).suite a ((a, oe) :: pn)) [.Return (some (.Tuple [.Constant (.str tx) j0 p0, .BoolOp .And [.Compare (.Attribute (.Name "error" p1) "value" p2) [.Eq] [.Name vx p3] p4, .Call (.Name "isinstance" p5) [.Name "error" p6, .Name "CiteError" p7] [] p8] p9] x1 p10)) p11] (tsuite K CE c j a cls d) := by
  refine ⟨fun pins s' σ H' D I h => ?_⟩
  obtain ⟨C, dd, v, v', x, rfl, rfl, ec, h1, h2, h3, h4, h5, h6, q⟩ := h
  have hu' : ((XR P w K mg base f cdv A outer s H E).suite a ((a, oe) :: pn)).A.units + 64 < cLine := hu
  have pe5 : ∀ q : Pos, PE ((XR P w K mg base f cdv A outer s H E).suite a ((a, oe) :: pn)) (.Name "error" q) (tVar 5) := fun q => pe_var (i := 5) (x := "error") rfl (.inl rfl) (by decide) (by decide)
  have pej : PE ((XR P w K mg base f cdv A outer s H E).suite a ((a, oe) :: pn)) (.Name vx p3) (tVar j) := pe_var (i := j) (X := (XR P w K mg base f cdv A outer s H E).suite a ((a, oe) :: pn)) hN hv hd hcd
  have pec : PE ((XR P w K mg base f cdv A outer s H E).suite a ((a, oe) :: pn)) (.Name "CiteError" p7) (tC (.ref CE)) := pe_glob (X := (XR P w K mg base f cdv A outer s H E).suite a ((a, oe) :: pn)) (v := .ref CE) (by rfl) hce rfl
  have isi : PE ((XR P w K mg base f cdv A outer s H E).suite a ((a, oe) :: pn)) (.Call (.Name "isinstance" p5) [.Name "error" p6, .Name "CiteError" p7] [] p8) _ := pe_callB (call_isD (X := XR P w K mg base f cdv A outer s H E) ec.x hz hf) (by rfl) T.m_isinstance (by decide +kernel) (pa_cons (pe5 p6) (pa_cons pec pa_nil))
  have eqx : PE ((XR P w K mg base f cdv A outer s H E).suite a ((a, oe) :: pn)) (.Compare (.Attribute (.Name "error" p1) "value" p2) [.Eq] [.Name vx p3] p4) _ := pe_cmpR (op_eqD hu') (pe_xf (X := XR P w K mg base f cdv A outer s H E) ec.f ec.v hz hf (pe5 p1)) pej (nomark _)
  refine (pss_one (ps_ret (pe_tupF (pa_cons (pe_str (x := tx)) (pa_cons (pe_and eqx (pe_one isi)) pa_nil))))).run pins s' σ H' D I ?_
  refine ⟨_, h4, rfl, rfl, dd, _, v', rfl, h1, rfl, ?_⟩
  refine ⟨_, h5, x.pd, x.pd, Is.dp x h2, Is.dp x h6, h3, h3, ?_⟩
  rw [eqv_self]
  refine ⟨true, rfl, ?_⟩
  rw [if_pos rfl]
  refine ⟨_, h4, CE, true, _, rfl, h1, ec.k, ?_⟩
  refine ⟨mill (by simp), fun p o hp ho => ?_⟩
  have := q p o hp ho
  rw [hx]
  exact this
/-- what is known of the four classes -/
structure Errs (P : Program) (K : PySem.W.Frag) (mg : Str → Option Value) (Cs Cb Cl Ct CE : Addr) : Prop where
  ce : mg "CiteError" = some (.ref CE)
  s : Er P K mg "InvalidStyle" Cs
  b : Er P K mg "InvalidBook" Cb
  l : Er P K mg "InvalidList" Cl
  t : Er P K mg "InvalidLetters" Ct
  xs : ErrC K Cs CE
  xb : ErrC K Cb CE
  xl : ErrC K Cl CE
  xt : ErrC K Ct CE
  ss : PySem.W.exmOne K (.ref Cs) (.ref Cs) = some true
  bs : PySem.W.exmOne K (.ref Cb) (.ref Cs) = some false
  bb : PySem.W.exmOne K (.ref Cb) (.ref Cb) = some true
  ls : PySem.W.exmOne K (.ref Cl) (.ref Cs) = some false
  lb : PySem.W.exmOne K (.ref Cl) (.ref Cb) = some false
  ll : PySem.W.exmOne K (.ref Cl) (.ref Cl) = some true
  ts : PySem.W.exmOne K (.ref Ct) (.ref Cs) = some false
  tb : PySem.W.exmOne K (.ref Ct) (.ref Cb) = some false
  tl : PySem.W.exmOne K (.ref Ct) (.ref Cl) = some false
  tt : PySem.W.exmOne K (.ref Ct) (.ref Ct) = some true
def yes (k : Cs) : U := .d (.tup [.str k, .bl true])
def p_ref (bE bL : Bad) (Cs Cb Cl Ct : Addr) : PSp := fun a R => ∃ (i : Int) (s b bs ls : D), a = [.int i, s, b, bs, ls] ∧ ∃ C x, shp x ∧ (i = 0 → bE C [s, b] x) ∧ (i ≠ 0 → bL C [s, bs, ls] x) ∧
  ((C = Cs ∧ x = s ∧ R (yes k_style)) ∨ (C = Cb ∧ x = b ∧ R (yes k_book)) ∨ (C = Cl ∧ x = bs ∧ R (yes k_list)) ∨ (C = Ct ∧ x = ls ∧ R (yes k_letters)))
theorem ok_l_refused {bE bL : Bad} {Cs Cb Cl Ct CE : Addr} (T : Txt K mg) (F : Df K mg "_law_refused" s_l_refused) (ER : Errs P K mg Cs Cb Cl Ct CE) (OE : OkZ P w K mg base 8 "set_entry" ["style", "book"] bE) (OL : OkZ P w K mg base 8 "set_list" ["style", "books", "letters"] bL) :
    Ok P w K mg base 9 "_law_refused" ["_law_which", "_law_style_here", "_law_book_here", "_law_books", "_law_letters_here"] (spP K (p_ref bE bL Cs Cb Cl Ct)) := by
  obtain ⟨f, fd, F, g⟩ := F
  have hlen : ∀ a R, p_ref bE bL Cs Cb Cl Ct a R → a.length = 5 := fun a R h => by
    obtain ⟨i, s, b, bs, ls, rfl, _⟩ := h
    rfl
  refine ⟨f, fd, F.ok sc_l_refused (fun vs H Q E ⟨_, a, R, hi, hp, _⟩ => by rw [hi.length]; exact hlen a R hp) fun cdv A outer s H vs Q E hr h => ?_, g, F.kp, F.binds fun _ _ _ _ _ _ us hl => match us, hl with | [_, _, _, _, _], _ => rfl⟩
  refine ⟨_, pss_stop (ps_try_manyAs (i := 5) (tb := fun W _ σ H => upZ K W (zIf (dB (d2 (p2 sEq) (dVar 0) (dC (.int 0)))) (zCall bE (dCons (dVar 1) (dCons (dVar 2) dNil))) (zCall bL (dCons (dVar 1) (dCons (dVar 3) (dCons (dVar 4) dNil))))) σ H) rfl rfl sc_l_refused.nd rfl rfl takes0
    (fun W pn xe tk _ => pss_one (psz_if (dt_cmp op_eq lift_eq (dv 0) de_int (nomark _)) (pss_one (psz_expr (dcallZ OE tk (by exact hr.mono (by decide)) (by rfl) (da_cons (dv 1) (da_cons (dv 2) da_nil))))) (pss_one (psz_expr (dcallZ OL tk (by exact hr.mono (by decide)) (by rfl) (da_cons (dv 1) (da_cons (dv 3) (da_cons (dv 4) da_nil))))))))
    (HdsAs.cons ⟨rfl, by decide, .inl ER.s.at_⟩ (fun a oe cls d pn hz hf => suite_d (j := 1) T ER.ce hr.units e_style rfl (.inl rfl) (by decide) (by decide) _ _ _ _ _ _ _ _ _ _ _ _ _ _ a oe cls d pn hz hf)
    (HdsAs.cons ⟨rfl, by decide, .inl ER.b.at_⟩ (fun a oe cls d pn hz hf => suite_d (j := 2) T ER.ce hr.units e_book rfl (.inl rfl) (by decide) (by decide) _ _ _ _ _ _ _ _ _ _ _ _ _ _ a oe cls d pn hz hf)
    (HdsAs.cons ⟨rfl, by decide, .inl ER.l.at_⟩ (fun a oe cls d pn hz hf => suite_d (j := 3) T ER.ce hr.units e_list rfl (.inl rfl) (by decide) (by decide) _ _ _ _ _ _ _ _ _ _ _ _ _ _ a oe cls d pn hz hf)
    (HdsAs.cons ⟨rfl, by decide, .inl ER.t.at_⟩ (fun a oe cls d pn hz hf => suite_d (j := 4) T ER.ce hr.units e_letters rfl (.inl rfl) (by decide) (by decide) _ _ _ _ _ _ _ _ _ _ _ _ _ _ a oe cls d pn hz hf) HdsAs.nil))))), ?_⟩
  obtain ⟨tb, a0, R, hi, ⟨i, s', b', bs', ls', rfl, C, x, hx, hE, hL, hout⟩, q⟩ := h
  have e0 := start_env (N := N_l_refused) tb hi (by show 5 ≤ 6; decide)
  have nod : ∀ b, ¬ M (L2.start N_l_refused vs) (slots N_l_refused ([D.int i, s', b', bs', ls'].map U.d)) b := fun b m => M_data (fun i w e => by
    have e := slots_get e
    rw [List.getElem?_map] at e
    cases q : [D.int _, s', b', bs', ls'][i]? with
    | none => rw [q] at e; cases e
    | some d => rw [q] at e; cases e; exact ⟨_, rfl⟩) m
  refine ⟨_, fun C' x' _ => C' = C ∧ x' = x, e0, ?_, fun C' x' δ' d v' H' hR ar hd hv => ?_⟩
  · simp only [zIf, zCall, dB, Ib.d2, dCons, dVar, dNil, dC]
    show ifB (decide (i = 0)) _ _
    refine ifB_of (fun e => ?_) fun e => ?_
    · exact ⟨C, x, hE (of_decide_eq_true e), rfl, rfl⟩
    · exact ⟨C, x, hL (of_decide_eq_false e), rfl, rfl⟩
  · obtain ⟨e1, e2⟩ := hR
    subst e1 e2
    have st := ar.st.weak nod
    have hi' := st.iss (fun _ z => z.elim) hi
    match vs, hi' with
    | [v0, v1, v2, v3, v4], .cons _ (.cons i1 (.cons i2 (.cons i3 (.cons i4 .nil)))) =>
      have fin : ∀ (k : Ib.Cs), R (yes k) → ∀ p o, H' p = none → Pl o → Q (.ref p) (upd H' p (.frz o (.tup [.str (S k), .bl true]))) := fun k hk p o hp ho =>
        q _ _ _ hk (st.trans (Stp.new (m := fun _ => False) hp) fun _ z => z.elim) (is_new hp ho (.cons (Is.str _) (.cons (Is.bl _) .nil)))
      rcases hout with ⟨rfl, rfl, hk⟩ | ⟨rfl, rfl, hk⟩ | ⟨rfl, rfl, hk⟩ | ⟨rfl, rfl, hk⟩
      · exact ⟨true, ER.ss, fun _ a _ => ⟨_, d, v1, v', _, rfl, rfl, ER.xs, hd, hv, hx, rfl, rfl, i1, fin _ hk⟩, (fun z => nomatch z)⟩
      · exact ⟨false, ER.bs, (fun z => nomatch z), fun _ => ⟨true, ER.bb, fun _ a _ => ⟨_, d, v2, v', _, rfl, rfl, ER.xb, hd, hv, hx, rfl, rfl, i2, fin _ hk⟩, (fun z => nomatch z)⟩⟩
      · exact ⟨false, ER.ls, (fun z => nomatch z), fun _ => ⟨false, ER.lb, (fun z => nomatch z), fun _ => ⟨true, ER.ll, fun _ a _ => ⟨_, d, v3, v', _, rfl, rfl, ER.xl, hd, hv, hx, rfl, rfl, i3, fin _ hk⟩, (fun z => nomatch z)⟩⟩⟩
      · exact ⟨false, ER.ts, (fun z => nomatch z), fun _ => ⟨false, ER.tb, (fun z => nomatch z), fun _ => ⟨false, ER.tl, (fun z => nomatch z), fun _ => ⟨true, ER.tt, fun _ a _ => ⟨_, d, v4, v', _, rfl, rfl, ER.xt, hd, hv, hx, rfl, rfl, i4, fin _ hk⟩, (fun z => nomatch z)⟩⟩⟩⟩
end
end Ib
set_option Elab.async false
set_option linter.all false
set_option autoImplicit false
set_option maxRecDepth 100000
set_option maxHeartbeats 4000000
/-! IbN3: the law's wrong arguments are wrong; all data are of small depth. -/
namespace Ib
open PySem PySem.Spec PyProof.Rows L2 TL PySem.W
variable [Tabl]
/-! ### small depth -/
theorem Fi_str {n : Nat} {l : Cs} (h : ∀ c ∈ l, c < 128) : Fi n (.str l) := by cases n <;> exact h
theorem Fi_int {n : Nat} {i : Int} : Fi n (.int i) := by cases n <;> trivial
theorem Fi_non {n : Nat} : Fi n .non := by cases n <;> trivial
theorem Fi_bl {n : Nat} {b : Bool} : Fi n (.bl b) := by cases n <;> trivial
theorem Fi_tup {n : Nat} {xs : List D} (h : ∀ x ∈ xs, Fi n x) : Fi (n + 1) (.tup xs) := h
theorem prn_lt {lo hi : Int} {l : Cs} (h : txtL lo hi l = true) : ∀ c ∈ l, c < 128 := by
  intro c hc
  simp only [txtL, Bool.and_eq_true, List.all_eq_true] at h
  have := h.2 c hc
  simp only [prn, Bool.and_eq_true, decide_eq_true_eq] at this
  omega
theorem fld_lt {f : Cs} (h : f ∈ FLD) : ∀ c ∈ f, c < 128 := by
  simp only [List.mem_cons, List.not_mem_nil, or_false] at h
  rcases h with rfl | rfl | rfl | rfl | rfl <;> decide
theorem giv_lt {l : Cs} (h : isGivL l = true) : ∀ c ∈ l, c < 128 := by
  unfold isGivL at h
  rw [Bool.and_eq_true] at h
  exact fun c hc => caps_lt c (allOf_iff.mp h.2 c hc)
theorem let_lt {l : Cs} (h : isLetL l = true) : ∀ c ∈ l, c < 128 := by
  unfold isLetL at h
  rw [Bool.and_eq_true] at h
  exact fun c hc => small_lt c (allOf_iff.mp h.2 c hc)
theorem Fi_PP {p : PP} (h : p.Ok) : Fi 1 p.toD := by
  have k : ∀ c ∈ k_mark, c < 128 := by decide
  cases p with
  | mk c =>
    refine Fi_tup fun x hx => ?_
    simp only [List.mem_cons, List.not_mem_nil, or_false] at hx
    rcases hx with rfl | rfl
    · exact Fi_str k
    · exact Fi_str (prn_lt (show txtL 1 3 c = true from h))
  | fld f =>
    refine Fi_tup fun x hx => ?_
    rw [List.mem_singleton.mp hx]
    exact Fi_str (fld_lt h)
theorem Fi_PPs {ps : List PP} (h : ∀ p ∈ ps, p.Ok) : Fi 2 (.tup (ps.map PP.toD)) := Fi_tup fun x hx => by
  obtain ⟨p, hp, rfl⟩ := List.mem_map.mp hx
  exact Fi_PP (h p hp)
theorem Fi_Pc {p : Pc} (h : p.Ok) : Fi 3 p.toD := by
  cases p with
  | p x => exact Fi_mono (by omega) (Fi_PP h)
  | cond a t e =>
    obtain ⟨ha, ⟨t3, ht⟩, ⟨e3, he⟩⟩ := h
    have k : ∀ c ∈ k_if, c < 128 := by decide
    have ka : ∀ c ∈ a, c < 128 := by
      simp only [List.mem_cons, List.not_mem_nil, or_false] at ha
      rcases ha with rfl | rfl <;> decide
    refine Fi_tup fun x hx => ?_
    simp only [List.mem_cons, List.not_mem_nil, or_false] at hx
    rcases hx with rfl | rfl | rfl | rfl
    · exact Fi_str k
    · exact Fi_str ka
    · exact Fi_PPs ht
    · exact Fi_PPs he
theorem Fi_Shown {s : Shown} (h : s.Ok) : ∀ x ∈ [D.str s.given, .bl s.dotted, .str s.gap, .str s.join, .str s.last, .int (s.most : Nat), .str s.rest], Fi 0 x := by
  have hg : ∀ c ∈ s.given, c < 128 := by
    have := h.gi
    simp only [List.mem_cons, List.not_mem_nil, or_false] at this
    rcases this with e | e | e <;> rw [e] <;> decide
  intro x hx
  simp only [List.mem_cons, List.not_mem_nil, or_false] at hx
  rcases hx with rfl | rfl | rfl | rfl | rfl | rfl | rfl
  · exact hg
  · trivial
  · exact prn_lt h.ga
  · exact prn_lt h.jo
  · exact prn_lt h.la
  · trivial
  · exact prn_lt h.re
theorem Fi_Sh {s : Shown} (h : s.Ok) : Fi 1 s.toD := Fi_tup (Fi_Shown h)
theorem Fi_Pcs {s : Sty} (h : s.Pre) : Fi 4 (.tup (s.pcs.map Pc.toD)) := Fi_tup fun x hx => by
  obtain ⟨p, hp, rfl⟩ := List.mem_map.mp hx
  exact Fi_Pc (h.pc p hp)
theorem Fi_Sty {s : Sty} (h : s.Pre) : Fi 5 s.toD := Fi_tup fun x hx => by
  simp only [List.mem_cons, List.not_mem_nil, or_false] at hx
  rcases hx with rfl | rfl
  · exact Fi_Pcs h
  · exact Fi_mono (by omega) (Fi_Sh h.sh)
theorem Fi_nm {n : Cs × Cs} (h : isFamL n.1 = true ∧ isGivL n.2 = true) : Fi 1 (nmD n) := Fi_tup fun x hx => by
  simp only [List.mem_cons, List.not_mem_nil, or_false] at hx
  rcases hx with rfl | rfl
  · exact fam_lt h.1
  · exact giv_lt h.2
theorem Fi_Bk5 {b : Bk} (h : b.Ok) : ∀ x ∈ [D.tup (b.names.map nmD), .int b.year, .str b.title, opS b.place, opI b.volume], Fi 2 x := by
  intro x hx
  simp only [List.mem_cons, List.not_mem_nil, or_false] at hx
  rcases hx with rfl | rfl | rfl | rfl | rfl
  · exact Fi_tup fun x hx => by
      obtain ⟨n, hn, rfl⟩ := List.mem_map.mp hx
      exact Fi_nm (h.fam n hn)
  · exact Fi_int
  · exact Fi_str (tit_lt h.ti)
  · cases e : b.place with
    | none => exact Fi_non
    | some p => exact Fi_str (fam_lt (h.pl p e))
  · cases b.volume <;> trivial
theorem Fi_Bk {b : Bk} (h : b.Ok) : Fi 3 b.toD := Fi_tup (Fi_Bk5 h)
theorem Fi_bks {bs : List Bk} (h : ∀ b ∈ bs, b.Ok) : Fi 4 (.tup (bs.map Bk.toD)) := Fi_tup fun x hx => by
  obtain ⟨b, hb, rfl⟩ := List.mem_map.mp hx
  exact Fi_Bk (h b hb)
theorem Fi_lets {ts : List Cs} (h : ∀ t ∈ ts, isLetL t = true) : ∀ x ∈ ts.map D.str, Fi 0 x := fun x hx => by
  obtain ⟨t, ht, rfl⟩ := List.mem_map.mp hx
  exact let_lt (h t ht)
/-! ### wrong arguments -/
structure Wrong (ok : D → Bool) (n : Nat) (xs : List D) : Prop where
  len : xs.length = n
  no : ∀ y ∈ xs, ok y = false
  sm : ∀ y ∈ xs, Sm y
  fi : ∀ y ∈ xs, Fi 10 y
def noStyL (s : Sty) : List D := [.non, .tup [], .tup [.tup [], s.shown.toD], .tup [.tup (s.pcs.map Pc.toD), .tup ([D.str s.shown.given, .bl s.shown.dotted, .str s.shown.gap, .str s.shown.join, .str s.shown.last, .int (s.shown.most : Nat), .str s.shown.rest].take 6)], .tup [.tup [.tup [.str k_year], .tup [.str k_year]], s.shown.toD]]
theorem wrong_sty {s : Sty} (h : s.Ok) : Wrong isSty 5 (noStyL s) where
  len := rfl
  no := fun y hy => by
    simp only [noStyL, List.mem_cons, List.not_mem_nil, or_false] at hy
    refine isSty_no ?_
    rcases hy with rfl | rfl | rfl | rfl | rfl
    · rintro ⟨z, e, _⟩; cases e
    · rintro ⟨z, e, _⟩; cases e
    · rintro ⟨z, e, ok⟩
      have n1 := ok.pre.n1
      simp only [Sty.toD, D.tup.injEq, List.cons.injEq] at e
      have := congrArg List.length e.1
      rw [List.length_map] at this
      simp only [List.length_nil] at this
      omega
    · rintro ⟨z, e, _⟩
      simp only [Sty.toD, D.tup.injEq, List.cons.injEq, Shown.toD] at e
      have := congrArg List.length e.2.1
      simp at this
    · rintro ⟨z, e, ok⟩
      have hr := ok.rows ⟨1, false, false⟩ (by simp [SHPS])
      obtain ⟨pcs, sh⟩ := z
      simp only [Sty.toD, D.tup.injEq, List.cons.injEq, and_true] at e
      have e2 : pcs = [.p (.fld k_year), .p (.fld k_year)] := map_inj Pc.inj (show pcs.map Pc.toD = [Pc.p (.fld k_year), .p (.fld k_year)].map Pc.toD from e.1.symm)
      subst e2
      have hy : rowTk ⟨[.p (.fld k_year), .p (.fld k_year)], sh⟩ ⟨1, false, false⟩ = [.fld k_year, .fld k_year] := rfl
      rw [hy] at hr
      unfold NoT at hr
      simp [Tok.isSign] at hr
  sm := fun y hy => by
    have sp := Sm_Sty h.pre
    simp only [Sty.toD, Sm_tup, Sms_cons, Sms_nil] at sp
    have ss := Sm_Shown h.pre.sh
    have ss2 := ss
    simp only [Shown.toD, Sm_tup, Sms_cons, Sms_nil] at ss2
    have ky : k_year.length ≤ 1000 := by decide
    simp only [noStyL, List.mem_cons, List.not_mem_nil, or_false] at hy
    rcases hy with rfl | rfl | rfl | rfl | rfl
    · simp
    · simp
    · simp only [Sm_tup, Sms_cons, Sms_nil]
      exact ⟨by simp, by simp, ss, trivial⟩
    · simp only [Sm_tup, Sms_cons, Sms_nil, List.take_succ_cons, List.take_zero]
      exact ⟨by simp, sp.2.1, ⟨by simp, ss2.2.1, ss2.2.2.1, ss2.2.2.2.1, ss2.2.2.2.2.1, ss2.2.2.2.2.2.1, ss2.2.2.2.2.2.2.1, trivial⟩, trivial⟩
    · simp only [Sm_tup, Sms_cons, Sms_nil, Sm_str]
      exact ⟨by simp, ⟨by simp, ⟨by simp, ky, trivial⟩, ⟨by simp, ky, trivial⟩, trivial⟩, ss, trivial⟩
  fi := fun y hy => by
    have ky : ∀ c ∈ k_year, c < 128 := by decide
    simp only [noStyL, List.mem_cons, List.not_mem_nil, or_false] at hy
    have sh : ∀ n, Fi (n + 1) s.shown.toD := fun n => Fi_mono (by omega) (Fi_Sh h.pre.sh)
    rcases hy with rfl | rfl | rfl | rfl | rfl
    · exact Fi_non
    · exact Fi_tup fun x hx => nomatch hx
    · refine Fi_tup fun x hx => ?_
      simp only [List.mem_cons, List.not_mem_nil, or_false] at hx
      rcases hx with rfl | rfl
      · exact Fi_tup fun x hx => nomatch hx
      · exact sh _
    · refine Fi_tup fun x hx => ?_
      simp only [List.mem_cons, List.not_mem_nil, or_false] at hx
      rcases hx with rfl | rfl
      · exact Fi_mono (by omega) (Fi_Pcs h.pre)
      · exact Fi_tup fun x hx => Fi_mono (by omega) (Fi_Shown h.pre.sh x (List.mem_of_mem_take hx))
    · refine Fi_tup fun x hx => ?_
      simp only [List.mem_cons, List.not_mem_nil, or_false] at hx
      rcases hx with rfl | rfl
      · refine Fi_tup fun x hx => ?_
        have : x = D.tup [.str k_year] := by simpa using hx
        subst this
        exact Fi_tup fun x hx => by rw [List.mem_singleton.mp hx]; exact Fi_str ky
      · exact sh _
def bk5 (b : Bk) : List D := [.tup (b.names.map nmD), .int b.year, .str b.title, opS b.place, opI b.volume]
def noBookL (b : Bk) : List D := [.non, .int 7, .tup ((bk5 b).take 4), .tup ([.tup []] ++ (bk5 b).drop 1), .tup ([.tup (b.names.map nmD), .int 999] ++ (bk5 b).drop 2), .tup ([.tup (b.names.map nmD), .int b.year, .str []] ++ (bk5 b).drop 3)]
theorem Sm_bk5 {b : Bk} (h : Sm b.toD) : ∀ x ∈ bk5 b, Sm x := fun x hx => by
  unfold Bk.toD at h
  rw [Sm_tup] at h
  exact Sms.mem h.2 hx
theorem wrong_book {b : Bk} (h : b.Ok) (hs : Sm b.toD) : Wrong isBook 6 (noBookL b) where
  len := rfl
  no := fun y hy => by
    simp only [noBookL, List.mem_cons, List.not_mem_nil, or_false] at hy
    rcases hy with rfl | rfl | rfl | rfl | rfl | rfl
    · rfl
    · rfl
    · rfl
    · rfl
    · show (isNams _ && (btw 1000 2999 (.int 999) && _)) = false
      rw [show btw 1000 2999 (.int 999) = false from rfl, Bool.false_and, Bool.and_false]
    · show (isNams _ && (btw 1000 2999 _ && (isTit (.str []) && _))) = false
      rw [show isTit (.str []) = false from rfl, Bool.false_and, Bool.and_false, Bool.and_false]
  sm := fun y hy => by
    have sb := Sm_bk5 hs
    have sn : Sm (.tup (b.names.map nmD)) := sb _ (by simp [bk5])
    have tup : ∀ xs : List D, xs.length ≤ 1000 → (∀ x ∈ xs, Sm x) → Sm (.tup xs) := fun xs h1 h2 => by rw [Sm_tup]; exact ⟨h1, Sms_of h2⟩
    simp only [noBookL, List.mem_cons, List.not_mem_nil, or_false] at hy
    rcases hy with rfl | rfl | rfl | rfl | rfl | rfl
    · simp
    · simp
    · exact tup _ (by simp [bk5]) fun x hx => sb x (List.mem_of_mem_take hx)
    · refine tup _ (by simp [bk5]) fun x hx => ?_
      rcases List.mem_append.mp hx with hx | hx
      · rw [List.mem_singleton.mp hx]; simp
      · exact sb x (List.mem_of_mem_drop hx)
    · refine tup _ (by simp [bk5]) fun x hx => ?_
      rcases List.mem_append.mp hx with hx | hx
      · simp only [List.mem_cons, List.not_mem_nil, or_false] at hx
        rcases hx with rfl | rfl
        · exact sn
        · simp
      · exact sb x (List.mem_of_mem_drop hx)
    · refine tup _ (by simp [bk5]) fun x hx => ?_
      rcases List.mem_append.mp hx with hx | hx
      · simp only [List.mem_cons, List.not_mem_nil, or_false] at hx
        rcases hx with rfl | rfl | rfl
        · exact sn
        · simp
        · simp
      · exact sb x (List.mem_of_mem_drop hx)
  fi := fun y hy => by
    have sb : ∀ x ∈ bk5 b, Fi 9 x := fun x hx => Fi_mono (by omega) (Fi_Bk5 h x hx)
    have sn : Fi 9 (.tup (b.names.map nmD)) := sb _ (by simp [bk5])
    simp only [noBookL, List.mem_cons, List.not_mem_nil, or_false] at hy
    rcases hy with rfl | rfl | rfl | rfl | rfl | rfl
    · exact Fi_non
    · exact Fi_int
    · exact Fi_tup fun x hx => sb x (List.mem_of_mem_take hx)
    · refine Fi_tup fun x hx => ?_
      rcases List.mem_append.mp hx with hx | hx
      · rw [List.mem_singleton.mp hx]; exact Fi_tup fun x hx => nomatch hx
      · exact sb x (List.mem_of_mem_drop hx)
    · refine Fi_tup fun x hx => ?_
      rcases List.mem_append.mp hx with hx | hx
      · simp only [List.mem_cons, List.not_mem_nil, or_false] at hx
        rcases hx with rfl | rfl
        · exact sn
        · exact Fi_int
      · exact sb x (List.mem_of_mem_drop hx)
    · refine Fi_tup fun x hx => ?_
      rcases List.mem_append.mp hx with hx | hx
      · simp only [List.mem_cons, List.not_mem_nil, or_false] at hx
        rcases hx with rfl | rfl | rfl
        · exact sn
        · exact Fi_int
        · exact Fi_str fun c hc => nomatch hc
      · exact sb x (List.mem_of_mem_drop hx)
def noListL (b : Bk) : List D := [.non, .tup [b.toD, b.toD], .tup [b.toD, .non], b.toD, .int 5]
theorem isList_not {xs : List D} (h : ¬ ((∀ x ∈ xs, isBook x = true) ∧ xs.Nodup)) : isList (.tup xs) = false := by
  cases e : isList (.tup xs) with
  | false => rfl
  | true =>
    obtain ⟨bs, e1, h1, h2⟩ := isList_of e
    cases e1
    exact absurd ⟨h1, h2⟩ h
theorem wrong_list {b : Bk} (h : b.Ok) (hs : Sm b.toD) : Wrong isList 5 (noListL b) where
  len := rfl
  no := fun y hy => by
    simp only [noListL, List.mem_cons, List.not_mem_nil, or_false] at hy
    rcases hy with rfl | rfl | rfl | rfl | rfl
    · rfl
    · exact isList_not fun z => by simp at z
    · exact isList_not fun z => by have := z.1 .non (by simp); simp [isBook] at this
    · exact isList_not fun z => by
        have := z.1 (.tup (b.names.map nmD)) (by simp)
        have n3 := h.n3
        obtain ⟨c, e, _⟩ := isBook_of this
        simp only [Bk.toD, D.tup.injEq] at e
        have := congrArg List.length e
        rw [List.length_map] at this
        simp at this
        omega
    · rfl
  sm := fun y hy => by
    simp only [noListL, List.mem_cons, List.not_mem_nil, or_false] at hy
    rcases hy with rfl | rfl | rfl | rfl | rfl
    · simp
    · simp only [Sm_tup, Sms_cons, Sms_nil]; exact ⟨by simp, hs, hs, trivial⟩
    · simp only [Sm_tup, Sms_cons, Sms_nil, Sm_non]; exact ⟨by simp, hs, trivial, trivial⟩
    · exact hs
    · simp
  fi := fun y hy => by
    have fb : ∀ n, Fi (n + 3) b.toD := fun n => Fi_mono (by omega) (Fi_Bk h)
    simp only [noListL, List.mem_cons, List.not_mem_nil, or_false] at hy
    rcases hy with rfl | rfl | rfl | rfl | rfl
    · exact Fi_non
    · exact Fi_tup fun x hx => by
        have : x = b.toD := by simpa using hx
        rw [this]; exact fb _
    · exact Fi_tup fun x hx => by
        simp only [List.mem_cons, List.not_mem_nil, or_false] at hx
        rcases hx with rfl | rfl
        · exact fb _
        · exact Fi_non
    · exact fb _
    · exact Fi_int
def noLetsL (ts : List Cs) (t0 : Cs) (c : Nat) : List D := [.tup ((ts.filter fun t => !decide (t = [c])).map D.str), .tup (ts.map D.str ++ [.str t0]), .tup (ts.map D.str ++ [.str k_abc]), .non, .tup []]
theorem wrong_lets {ts : List Cs} {t0 : Cs} {c : Nat} (h : LetsOk ts) (h0 : t0 ∈ ts) (hc : c ∈ SMALL) : Wrong isLets 5 (noLetsL ts t0 c) where
  len := rfl
  no := fun y hy => by
    have no : ∀ us : List Cs, ¬ LetsOk us → isLets (.tup (us.map D.str)) = false := fun us hu => by
      rw [isLets_strs]
      cases e : okLets us with
      | false => rfl
      | true => exact absurd (letsOk.mp e) hu
    simp only [noLetsL, List.mem_cons, List.not_mem_nil, or_false] at hy
    rcases hy with rfl | rfl | rfl | rfl | rfl
    · refine no _ fun z => ?_
      have := z.all c hc
      simp at this
    · rw [show ts.map D.str ++ [D.str t0] = (ts ++ [t0]).map D.str by simp]
      refine no _ fun z => ?_
      have := z.nd
      rw [List.nodup_append] at this
      exact this.2.2 t0 h0 t0 (by simp) rfl
    · rw [show ts.map D.str ++ [D.str k_abc] = (ts ++ [k_abc]).map D.str by simp]
      refine no _ fun z => ?_
      have := z.let_ k_abc (by simp)
      exact absurd this (by decide)
    · rfl
    · exact no [] fun z => by have := z.all 97 (by decide); simp at this
  sm := fun y hy => by
    have le := h.le
    have tl : ∀ t ∈ ts, t.length ≤ 1000 := fun t ht => by
      have := h.let_ t ht
      simp only [isLetL, Bool.and_eq_true, decide_eq_true_eq] at this
      omega
    have tup : ∀ us : List Cs, us.length ≤ 1000 → (∀ t ∈ us, t.length ≤ 1000) → Sm (.tup (us.map D.str)) := fun us h1 h2 => by
      rw [Sm_tup, List.length_map]
      refine ⟨h1, Sms_of fun x hx => ?_⟩
      obtain ⟨t, ht, rfl⟩ := List.mem_map.mp hx
      rw [Sm_str]
      exact h2 t ht
    simp only [noLetsL, List.mem_cons, List.not_mem_nil, or_false] at hy
    rcases hy with rfl | rfl | rfl | rfl | rfl
    · exact tup _ (Nat.le_trans (List.length_filter_le _ _) (by omega)) fun t ht => tl t (List.mem_filter.mp ht).1
    · rw [show ts.map D.str ++ [D.str t0] = (ts ++ [t0]).map D.str by simp]
      refine tup _ (by simp; omega) fun t ht => ?_
      rcases List.mem_append.mp ht with ht | ht
      · exact tl t ht
      · rw [List.mem_singleton.mp ht]; exact tl t0 h0
    · rw [show ts.map D.str ++ [D.str k_abc] = (ts ++ [k_abc]).map D.str by simp]
      refine tup _ (by simp; omega) fun t ht => ?_
      rcases List.mem_append.mp ht with ht | ht
      · exact tl t ht
      · rw [List.mem_singleton.mp ht]; decide
    · simp
    · simp
  fi := fun y hy => by
    have fl : ∀ x ∈ ts.map D.str, Fi 9 x := fun x hx => Fi_mono (by omega) (Fi_lets h.let_ x hx)
    simp only [noLetsL, List.mem_cons, List.not_mem_nil, or_false] at hy
    rcases hy with rfl | rfl | rfl | rfl | rfl
    · refine Fi_tup fun x hx => ?_
      obtain ⟨t, ht, rfl⟩ := List.mem_map.mp hx
      exact fl _ (List.mem_map.mpr ⟨t, (List.mem_filter.mp ht).1, rfl⟩)
    · refine Fi_tup fun x hx => ?_
      rcases List.mem_append.mp hx with hx | hx
      · exact fl x hx
      · rw [List.mem_singleton.mp hx]; exact fl _ (List.mem_map.mpr ⟨t0, h0, rfl⟩)
    · refine Fi_tup fun x hx => ?_
      rcases List.mem_append.mp hx with hx | hx
      · exact fl x hx
      · rw [List.mem_singleton.mp hx]; exact Fi_str (by decide)
    · exact Fi_non
    · exact Fi_tup fun x hx => nomatch hx
end Ib
set_option Elab.async false
set_option linter.all false
set_option autoImplicit false
set_option maxRecDepth 100000
set_option maxHeartbeats 4000000
/-! IbM23: the law's refusals. -/
namespace Ib
open PySem PySem.Spec PyProof.Rows L2 TL PySem.W
variable [Tabl]
section
variable {P : Program} {w : World} {K : PySem.W.Frag} {mg : Str → Option Value} {base : Heap}
/-- a promise that asks more -/
theorem FnOk.less {CX : CXT} {k : Nat} {f : Addr} {fd : FuncData} {ps : List Str} {p q : PSp} (F : FnOk P w K mg base CX k f fd ps (spP K p)) (h : ∀ a R, q a R → p a R) : FnOk P w K mg base CX k f fd ps (spP K q) where
  len := fun vs H Q E ⟨tb, ds, R, hi, hb, z⟩ => F.len vs H Q E ⟨tb, ds, R, hi, h _ _ hb, z⟩
  run := fun A outer s H args us vs Q E hr e0 hbn rv ⟨tb, ds, R, hi, hb, z⟩ => F.run A outer s H args us vs Q E hr e0 hbn rv ⟨tb, ds, R, hi, h _ _ hb, z⟩
theorem Ok.less {k : Nat} {x : Str} {ps : List Str} {p q : PSp} (O : Ok P w K mg base k x ps (spP K p)) (h : ∀ a R, q a R → p a R) : Ok P w K mg base k x ps (spP K q) := by
  obtain ⟨f, fd, F, r⟩ := O
  exact ⟨f, fd, FnOk.less F h, r⟩
end
def p_l_refS : PSp := fun a R => ∃ (i : Int) (y b bs ls : D), a = [.int i, y, b, bs, ls] ∧ Sm y ∧ isSty y = false ∧ Fi 10 y ∧ R (yes k_style)
def p_l_refB : PSp := fun a R => ∃ (s : Sty) (y bs ls : D), a = [.int 0, s.toD, y, bs, ls] ∧ Sm s.toD ∧ s.Ok ∧ Sm y ∧ isBook y = false ∧ Fi 10 y ∧ R (yes k_book)
def p_l_refL : PSp := fun a R => ∃ (s : Sty) (b y ls : D), a = [.int 1, s.toD, b, y, ls] ∧ Sm s.toD ∧ s.Ok ∧ Sm y ∧ isList y = false ∧ Fi 10 y ∧ R (yes k_list)
def p_l_refT : PSp := fun a R => ∃ (s : Sty) (b bs y : D), a = [.int 1, s.toD, b, bs, y] ∧ Sm s.toD ∧ s.Ok ∧ Sm bs ∧ isList bs = true ∧ Sm y ∧ isLets y = false ∧ Fi 10 y ∧ R (yes k_letters)
theorem refS_of {Cs Cb Cl Ct : Addr} (a : List D) (R : U → Prop) (h : p_l_refS a R) : p_ref (badES Cs) (badLS Cs) Cs Cb Cl Ct a R := by
  obtain ⟨i, y, b, bs, ls, rfl, h1, h2, h3, h⟩ := h
  exact ⟨i, y, b, bs, ls, rfl, Cs, y, Fi_shp h3 (by omega), fun _ => ⟨rfl, b, rfl, h1, h2⟩, fun _ => ⟨rfl, bs, ls, rfl, h1, h2⟩, .inl ⟨rfl, rfl, h⟩⟩
theorem refB_of {Cs Cb Cl Ct : Addr} {bL : Bad} (a : List D) (R : U → Prop) (h : p_l_refB a R) : p_ref (badEB Cb) bL Cs Cb Cl Ct a R := by
  obtain ⟨s, y, bs, ls, rfl, s1, s2, h1, h2, h3, h⟩ := h
  exact ⟨0, s.toD, y, bs, ls, rfl, Cb, y, Fi_shp h3 (by omega), fun _ => ⟨rfl, s, rfl, s1, s2, h1, h2⟩, fun z => absurd rfl z, .inr (.inl ⟨rfl, rfl, h⟩)⟩
theorem refL_of {Cs Cb Cl Ct : Addr} {bE : Bad} (a : List D) (R : U → Prop) (h : p_l_refL a R) : p_ref bE (badLB Cl) Cs Cb Cl Ct a R := by
  obtain ⟨s, b, y, ls, rfl, s1, s2, h1, h2, h3, h⟩ := h
  exact ⟨1, s.toD, b, y, ls, rfl, Cl, y, Fi_shp h3 (by omega), fun z => absurd z (by decide), fun _ => ⟨rfl, s, ls, rfl, s1, s2, h1, h2⟩, .inr (.inr (.inl ⟨rfl, rfl, h⟩))⟩
theorem refT_of {Cs Cb Cl Ct : Addr} {bE : Bad} (a : List D) (R : U → Prop) (h : p_l_refT a R) : p_ref bE (badLL Ct) Cs Cb Cl Ct a R := by
  obtain ⟨s, b, bs, y, rfl, s1, s2, b1, b2, h1, h2, h3, h⟩ := h
  exact ⟨1, s.toD, b, bs, y, rfl, Ct, y, Fi_shp h3 (by omega), fun z => absurd z (by decide), fun _ => ⟨rfl, s, bs, rfl, s1, s2, b1, b2, h1, h2⟩, .inr (.inr (.inr ⟨rfl, rfl, h⟩))⟩
/-! ### expressions that change nothing -/
def Pu (e : DE) (δ : DEnv) (x : D) : Prop := ∀ P : U → DEnv → Prop, P (.d x) δ → e δ P
def PuA (da : DA) (δ : DEnv) (xs : List D) : Prop := ∀ P : List U → DEnv → Prop, P (xs.map U.d) δ → da δ P
theorem allD_map : ∀ xs : List D, allD (xs.map U.d) = some xs
  | [] => rfl
  | x :: r => by
    rw [List.map_cons, allD, allD_map r]
    rfl
section
variable {δ : DEnv} {a b : DE} {da : DA} {x y : D} {xs ys : List D} {i : Nat} {j : Int}
theorem pu_c : Pu (dC x) δ x := fun P h => h
theorem pu_var (e : δ[i]? = some (some (.d x))) : Pu (dVar i) δ x := fun P h => dVara e h
theorem pua_nil : PuA dNil δ [] := fun P h => h
theorem pua_cons (ha : Pu a δ x) (hb : PuA da δ xs) : PuA (dCons a da) δ (x :: xs) := fun P h => ha _ (hb _ h)
theorem pu_tup (h : PuA da δ xs) (hl : xs.length ≤ 1000) : Pu (dTup da) δ (.tup xs) := fun P q => h _ (by
  show (match allD (xs.map U.d) with
    | some ds => ds.length ≤ sizeLine ∧ P (.d (.tup ds)) δ
    | none => False)
  rw [allD_map]
  exact ⟨thou hl, q⟩)
theorem pu_ix (ha : Pu a δ (.tup xs)) (hb : Pu b δ (.int j)) (e : atI xs j = some x) : Pu (d2 vIx a b) δ x := fun P q => ha _ (hb _ (by
  simp only [vIx, seqU, e]
  exact q))
theorem pu_slTo {k : Nat} (ha : Pu a δ (.tup xs)) (h1 : 1 ≤ k) (h2 : k < xs.length) : Pu (dSl vSlT a dNoP (dPart (dC (.int (k : Nat))))) δ (.tup (xs.take k)) := fun P q => ha _ (by
  refine ⟨fun z => ?_, ?_⟩
  · have := z.2
    rw [HT.sIx_nat] at this
    omega
  · rw [cutD_to]
    exact q)
theorem pu_slFrom {k : Nat} (ha : Pu a δ (.tup xs)) (h1 : 1 ≤ k) (h2 : k < xs.length) : Pu (dSl vSlT a (dPart (dC (.int (k : Nat)))) dNoP) δ (.tup (xs.drop k)) := fun P q => ha _ (by
  refine ⟨fun z => ?_, ?_⟩
  · have := z.1
    rw [HT.sIx_nat] at this
    omega
  · rw [cutD_from]
    exact q)
theorem pu_cat (ha : Pu a δ (.tup xs)) (hb : Pu b δ (.tup ys)) (h1 : xs ≠ []) (h2 : xs.length + ys.length ≤ 1000) : Pu (d2 vCatT a b) δ (.tup (xs ++ ys)) := fun P q => ha _ (hb _ ⟨h1, thou h2, q⟩)
end
def p_l_refusals_right : RSp := fun n a R => ∃ (s : Sty) (b : Bk) (bs : List Bk) (ts : List Cs), a = [s.toD, b.toD, .tup (bs.map Bk.toD), .tup (ts.map D.str)] ∧ 10 ≤ n ∧ s.Ok ∧ b.Ok ∧ Sm b.toD ∧ (∀ b ∈ bs, b.Ok ∧ Sm b.toD) ∧ bs.Nodup ∧ bs.length ≤ 10 ∧ LetsOk ts ∧ ∀ n', R (.d (.bl true)) n'
theorem len_l_refusals_right (n : Nat) (a : List D) (R : U → Nat → Prop) (h : p_l_refusals_right n a R) : a.length + 1 = 5 := by
  obtain ⟨s, b, bs, ts, rfl, _⟩ := h
  rfl
def ds_l_refusals_right : DS :=
    (sSeq (sSet (dTup (dCons (dC .non) (dCons (dTup dNil) (dCons (dTup (dCons (dTup dNil) (dCons (d2 vIx (dVar 1) (dC (.int 1))) dNil))) (dCons (dTup (dCons (d2 vIx (dVar 1) (dC (.int 0))) (dCons (dSl vSlT (d2 vIx (dVar 1) (dC (.int 1))) dNoP (dPart (dC (.int 6)))) dNil))) (dCons (dTup (dCons (dTup (dCons (dTup (dCons (dC (.str k_year)) dNil)) (dCons (dTup (dCons (dC (.str k_year)) dNil)) dNil))) (dCons (d2 vIx (dVar 1) (dC (.int 1))) dNil))) dNil)))))) 5)
    (sSeq (sSet (dTup (dCons (dC .non) (dCons (dC (.int 7)) (dCons (dSl vSlT (dVar 2) dNoP (dPart (dC (.int 4)))) (dCons (d2 vCatT (dTup (dCons (dTup dNil) dNil)) (dSl vSlT (dVar 2) (dPart (dC (.int 1))) dNoP)) (dCons (d2 vCatT (dTup (dCons (d2 vIx (dVar 2) (dC (.int 0))) (dCons (dC (.int 999)) dNil))) (dSl vSlT (dVar 2) (dPart (dC (.int 2))) dNoP)) (dCons (d2 vCatT (dTup (dCons (d2 vIx (dVar 2) (dC (.int 0))) (dCons (d2 vIx (dVar 2) (dC (.int 1))) (dCons (dC (.str k_empty)) dNil)))) (dSl vSlT (dVar 2) (dPart (dC (.int 3))) dNoP)) dNil))))))) 6)
    (sSeq (sSet (dTup (dCons (dC .non) (dCons (dTup (dCons (dVar 2) (dCons (dVar 2) dNil))) (dCons (dTup (dCons (dVar 2) (dCons (dC .non) dNil))) (dCons (dVar 2) (dCons (dC (.int 5)) dNil)))))) 7)
    (sSeq (sSet (d2 vIx (d2 vIx (dVar 4) (dCallR p_l_draw (dCons (dVar 0) (dCons (dCB (vOne fLen) (dCons (dVar 4) dNil)) dNil)))) (dC (.int 0))) 8)
    (sSeq (sSet (dTup (dCons (dCB (vOne fTuple) (dCons (dLc (icT (dVar 4)) (gN 11) (dB (d2 (p2 sNe) (dVar 11) (dVar 8))) (dVar 11) [11]) dNil)) (dCons (d2 vCatT (dVar 4) (dTup (dCons (d2 vIx (dVar 4) (dC (.int 0))) dNil))) (dCons (d2 vCatT (dVar 4) (dTup (dCons (dC (.str k_abc)) dNil))) (dCons (dC .non) (dCons (dTup dNil) dNil)))))) 9)
    (sSeq (sSet (dLst (dCons (d2 vIx (dVar 5) (dCallR p_l_draw (dCons (dVar 0) (dCons (dC (.int 5)) dNil)))) (dCons (d2 vIx (dVar 6) (dCallR p_l_draw (dCons (dVar 0) (dCons (dC (.int 6)) dNil)))) dNil))) 10)
    (sSeq (sSet (d2 vCatL (dVar 10) (dLst (dCons (d2 vIx (dVar 7) (dCallR p_l_draw (dCons (dVar 0) (dCons (dC (.int 5)) dNil)))) (dCons (d2 vIx (dVar 9) (dCallR p_l_draw (dCons (dVar 0) (dCons (dC (.int 5)) dNil)))) dNil)))) 10)
    (sSeq (sIf (dB (d2 (vEqD true) (dCallP p_l_refS (dCons (dC (.int 0)) (dCons (d2 vIx (dVar 10) (dC (.int 0))) (dCons (d2 vIx (dVar 10) (dC (.int 1))) (dCons (dVar 3) (dCons (dVar 4) dNil)))))) (dTup (dCons (dC (.str k_style)) (dCons (dC (.bl true)) dNil))))) (sRet (dC (.bl false))) sNext)
    (sSeq (sIf (dB (d2 (vEqD true) (dCallP p_l_refS (dCons (dC (.int 1)) (dCons (d2 vIx (dVar 10) (dC (.int 0))) (dCons (dVar 2) (dCons (d2 vIx (dVar 10) (dC (.int 2))) (dCons (d2 vIx (dVar 10) (dC (.int 3))) dNil)))))) (dTup (dCons (dC (.str k_style)) (dCons (dC (.bl true)) dNil))))) (sRet (dC (.bl false))) sNext)
    (sSeq (sIf (dB (d2 (vEqD true) (dCallP p_l_refB (dCons (dC (.int 0)) (dCons (dVar 1) (dCons (d2 vIx (dVar 10) (dC (.int 1))) (dCons (dVar 3) (dCons (dVar 4) dNil)))))) (dTup (dCons (dC (.str k_book)) (dCons (dC (.bl true)) dNil))))) (sRet (dC (.bl false))) sNext)
    (sSeq (sIf (dB (d2 (vEqD true) (dCallP p_l_refL (dCons (dC (.int 1)) (dCons (dVar 1) (dCons (dVar 2) (dCons (d2 vIx (dVar 10) (dC (.int 2))) (dCons (d2 vIx (dVar 10) (dC (.int 3))) dNil)))))) (dTup (dCons (dC (.str k_list)) (dCons (dC (.bl true)) dNil))))) (sRet (dC (.bl false))) sNext)
    (sRet (d2 (vEqD false) (dCallP p_l_refT (dCons (dC (.int 1)) (dCons (dVar 1) (dCons (dVar 2) (dCons (dVar 3) (dCons (d2 vIx (dVar 10) (dC (.int 3))) dNil)))))) (dTup (dCons (dC (.str k_letters)) (dCons (dC (.bl true)) dNil))))))))))))))))
theorem ixDr {δ : DEnv} {P : U → DEnv → Prop} {ls : Addr} {n i : Nat} {m : Int} {xs : List D} (h0 : δ[0]? = some (some (.rdr ls n))) (hi : δ[i]? = some (some (.d (.tup xs)))) (hm : m = (xs.length : Nat)) (hn : 0 < n) (h1 : 1 ≤ xs.length) (h2 : xs.length < 1000) (h : ∀ y ∈ xs, P (.d y) (δ.set 0 (some (.rdr ls (n - 1))))) :
    d2 vIx (dVar i) (dCallR p_l_draw (dCons (dVar 0) (dCons (dC (.int m)) dNil))) δ P := by
  simp only [d2]
  refine dVara hi (c1 h0 (dCa (contR_d h0 ((e_l_draw _ _ _).mpr ⟨hn, by omega, by omega, fun r r0 r1 => ?_⟩))))
  obtain ⟨y, e, hy⟩ := pick (l := xs) r0 (by rw [← hm]; exact r1)
  simp only [vIx, seqU, e]
  exact h y hy
theorem fiYes {k : Cs} (hk : ∀ c ∈ k, c < 128) : Fi 1 (.tup [.str k, .bl true]) := Fi_tup fun x hx => by
  simp only [List.mem_cons, List.not_mem_nil, or_false] at hx
  rcases hx with rfl | rfl
  · exact hk
  · trivial
/-- if refused(..) != ("..", True): return False -/
theorem refGuard {k : Cs} {psp : PSp} {da : DA} {ds : List D} {rest : DS} {R : DEnds} {δ : DEnv} (hk : ∀ c ∈ k, c < 128) (pa : PuA da δ ds) (hp : ∀ R2 : U → Prop, R2 (yes k) → psp ds R2) (h : rest R δ) :
    sSeq (sIf (dB (d2 (vEqD true) (dCallP psp da) (dTup (dCons (dC (.str k)) (dCons (dC (.bl true)) dNil))))) (sRet (dC (.bl false))) sNext) rest R δ := by
  refine seqV ?_
  simp only [sIf, dB, d2, dCallP]
  refine pa _ ?_
  rw [allD_map]
  refine hp _ ?_
  refine dTupa (dConsa (dCa (dConsa (dCa ?_))))
  refine ⟨mill (by simp), ?_⟩
  have fi := fiYes hk
  refine ⟨Fi_shp fi (by omega), Fi_shp fi (by omega), ?_⟩
  show ifB (!eqD _ _) _ _
  rw [show eqD (.tup [.str k, .bl true]) (.tup [.str k, .bl true]) = true from eqv_self _]
  exact h
/-- return refused(..) == ("..", True) -/
theorem refEnd {k : Cs} {psp : PSp} {da : DA} {ds : List D} {R : DEnds} {δ : DEnv} (hk : ∀ c ∈ k, c < 128) (pa : PuA da δ ds) (hp : ∀ R2 : U → Prop, R2 (yes k) → psp ds R2) (h : R.rt (.d (.bl true)) δ) :
    sRet (d2 (vEqD false) (dCallP psp da) (dTup (dCons (dC (.str k)) (dCons (dC (.bl true)) dNil)))) R δ := by
  simp only [sRet, d2, dCallP]
  refine pa _ ?_
  rw [allD_map]
  refine hp _ ?_
  refine dTupa (dConsa (dCa (dConsa (dCa ?_))))
  refine ⟨mill (by simp), ?_⟩
  have fi := fiYes hk
  refine ⟨Fi_shp fi (by omega), Fi_shp fi (by omega), ?_⟩
  show R.rt (.d (.bl (eqD _ _))) _
  rw [show eqD (.tup [.str k, .bl true]) (.tup [.str k, .bl true]) = true from eqv_self _]
  exact h
theorem lenTa {δ : DEnv} {P : U → DEnv → Prop} {i : Nat} {xs : List D} (e : δ[i]? = some (some (.d (.tup xs)))) (h : P (.d (.int (xs.length : Nat))) δ) : dCB (vOne fLen) (dCons (dVar i) dNil) δ P := by
  simp only [dCB, dCons, dVar, e, dNil, vOne, fLen, seqU]
  exact h
theorem pu_ixL {δ : DEnv} {i : Nat} {j : Int} {xs : List D} {x : D} (e : δ[i]? = some (some (.lst xs))) (a : atI xs j = some x) : Pu (d2 vIx (dVar i) (dC (.int j))) δ x := fun P h => ixLa e a h
theorem tupLcA {di : DIC} {g : DG} {tt : DT} {te : DE} {vs : List Nat} {δ : DEnv} {P : U → DEnv → Prop} (h : dLc di g tt te vs δ fun w δ1 => fTuple w δ1 P) : dCB (vOne fTuple) (dCons (dLc di g tt te vs) dNil) δ P := h
def lostP (c : Nat) : D → Bool
  | .str t => !decide (t = [c])
  | _ => false
theorem lost_filter (ts : List Cs) (c : Nat) : ((ts.map D.str).filter (lostP c)).map id = (ts.filter fun t => !decide (t = [c])).map D.str := by
  rw [List.map_id, List.filter_map]
  rfl
theorem style_lt : ∀ c ∈ k_style, c < 128 := by decide
theorem book_lt : ∀ c ∈ k_book, c < 128 := by decide
theorem list_lt : ∀ c ∈ k_list, c < 128 := by decide
theorem letters_lt : ∀ c ∈ k_letters, c < 128 := by decide
theorem catTa {δ : DEnv} {P : U → DEnv → Prop} {xs ys : List D} (h1 : xs ≠ []) (h2 : xs.length + ys.length ≤ 1000) (h : P (.d (.tup (xs ++ ys))) δ) : vCatT (.d (.tup xs)) (.d (.tup ys)) δ P := ⟨h1, thou h2, h⟩
theorem sem_l_refusals_right (n : Nat) (ls : Addr) (a : List D) (R : U → Nat → Prop) (h : p_l_refusals_right n a R) : ds_l_refusals_right { nx := fun δ => ∃ n', δ[0]? = some (some (.rdr ls n')) ∧ R (.d .non) n', rt := fun w δ => ∃ n', δ[0]? = some (some (.rdr ls n')) ∧ (∃ y, w = .d y) ∧ R w n' } (slots N_l_refusals_right (.rdr ls n :: a.map U.d)) := by
  obtain ⟨s, b, bs, ts, rfl, hn, sok, bok, bsm, hbs, nd, hl, ht, h⟩ := h
  have ssm := Sm_Sty sok.pre
  have le := ht.le
  have tpos : 1 ≤ ts.length := by
    have := ht.all 97 (by decide)
    cases ts with
    | nil => cases this
    | cons => simp
  obtain ⟨t0, tr, ets⟩ : ∃ t0 tr, ts = t0 :: tr := by
    cases ts with
    | nil => simp at tpos
    | cons x r => exact ⟨x, r, rfl⟩
  unfold ds_l_refusals_right
  refine seqCut (fun δ => ∃ S, Wrong isSty 5 S ∧ δ = [some (.rdr ls n), some (.d s.toD), some (.d b.toD), some (.d (.tup (bs.map Bk.toD))), some (.d (.tup (ts.map D.str))), some (.d (.tup S)), none, none, none, none, none, none]) (fun N hN => ?_) ?_
  · simp only [sSet]
    refine pu_tup (xs := noStyL s) (pua_cons pu_c (pua_cons (pu_tup pua_nil (Nat.le_of_ble_eq_true rfl)) (pua_cons (pu_tup (pua_cons (pu_tup pua_nil (Nat.le_of_ble_eq_true rfl)) (pua_cons (pu_ix (pu_var rfl) pu_c (atI_1 _ _ _)) pua_nil)) (Nat.le_of_ble_eq_true rfl))
      (pua_cons (pu_tup (pua_cons (pu_ix (pu_var rfl) pu_c (atI_zero _ _)) (pua_cons (pu_slTo (pu_ix (pu_var rfl) pu_c (atI_1 _ _ _)) (Nat.le_of_ble_eq_true rfl) (Nat.le_of_ble_eq_true rfl)) pua_nil)) (Nat.le_of_ble_eq_true rfl))
      (pua_cons (pu_tup (pua_cons (pu_tup (pua_cons (pu_tup (pua_cons pu_c pua_nil) (Nat.le_of_ble_eq_true rfl)) (pua_cons (pu_tup (pua_cons pu_c pua_nil) (Nat.le_of_ble_eq_true rfl)) pua_nil)) (Nat.le_of_ble_eq_true rfl)) (pua_cons (pu_ix (pu_var rfl) pu_c (atI_1 _ _ _)) pua_nil)) (Nat.le_of_ble_eq_true rfl)) pua_nil))))) (Nat.le_of_ble_eq_true rfl) _ ?_
    exact hN _ ⟨_, wrong_sty sok, rfl⟩
  rintro δ ⟨S, w1, rfl⟩
  refine seqCut (fun δ => ∃ B, Wrong isBook 6 B ∧ δ = [some (.rdr ls n), some (.d s.toD), some (.d b.toD), some (.d (.tup (bs.map Bk.toD))), some (.d (.tup (ts.map D.str))), some (.d (.tup S)), some (.d (.tup B)), none, none, none, none, none]) (fun N hN => ?_) ?_
  · simp only [sSet]
    refine pu_tup (xs := noBookL b) (pua_cons pu_c (pua_cons pu_c (pua_cons (pu_slTo (k := 4) (xs := bk5 b) (pu_var rfl) (Nat.le_of_ble_eq_true rfl) (Nat.le_of_ble_eq_true rfl))
      (pua_cons (pu_cat (pu_tup (pua_cons (pu_tup pua_nil (Nat.le_of_ble_eq_true rfl)) pua_nil) (Nat.le_of_ble_eq_true rfl)) (pu_slFrom (k := 1) (xs := bk5 b) (pu_var rfl) (Nat.le_of_ble_eq_true rfl) (Nat.le_of_ble_eq_true rfl)) (by simp) (Nat.le_of_ble_eq_true rfl))
      (pua_cons (pu_cat (pu_tup (pua_cons (pu_ix (pu_var rfl) pu_c (atI_zero _ _)) (pua_cons pu_c pua_nil)) (Nat.le_of_ble_eq_true rfl)) (pu_slFrom (k := 2) (xs := bk5 b) (pu_var rfl) (Nat.le_of_ble_eq_true rfl) (Nat.le_of_ble_eq_true rfl)) (by simp) (Nat.le_of_ble_eq_true rfl))
      (pua_cons (pu_cat (pu_tup (pua_cons (pu_ix (pu_var rfl) pu_c (atI_zero _ _)) (pua_cons (pu_ix (pu_var rfl) pu_c (atI_1 _ _ _)) (pua_cons pu_c pua_nil))) (Nat.le_of_ble_eq_true rfl)) (pu_slFrom (k := 3) (xs := bk5 b) (pu_var rfl) (Nat.le_of_ble_eq_true rfl) (Nat.le_of_ble_eq_true rfl)) (by simp) (Nat.le_of_ble_eq_true rfl)) pua_nil)))))) (Nat.le_of_ble_eq_true rfl) _ ?_
    exact hN _ ⟨_, wrong_book bok bsm, rfl⟩
  rintro δ ⟨B, w2, rfl⟩
  refine seqCut (fun δ => ∃ L, Wrong isList 5 L ∧ δ = [some (.rdr ls n), some (.d s.toD), some (.d b.toD), some (.d (.tup (bs.map Bk.toD))), some (.d (.tup (ts.map D.str))), some (.d (.tup S)), some (.d (.tup B)), some (.d (.tup L)), none, none, none, none]) (fun N hN => ?_) ?_
  · simp only [sSet]
    refine pu_tup (xs := noListL b) (pua_cons pu_c (pua_cons (pu_tup (pua_cons (pu_var rfl) (pua_cons (pu_var rfl) pua_nil)) (Nat.le_of_ble_eq_true rfl)) (pua_cons (pu_tup (pua_cons (pu_var rfl) (pua_cons pu_c pua_nil)) (Nat.le_of_ble_eq_true rfl)) (pua_cons (pu_var rfl) (pua_cons pu_c pua_nil))))) (Nat.le_of_ble_eq_true rfl) _ ?_
    exact hN _ ⟨_, wrong_list bok bsm, rfl⟩
  rintro δ ⟨L, w3, rfl⟩
  refine seqCut (fun δ => ∃ c, c ∈ SMALL ∧ δ = [some (.rdr ls (n - 1)), some (.d s.toD), some (.d b.toD), some (.d (.tup (bs.map Bk.toD))), some (.d (.tup (ts.map D.str))), some (.d (.tup S)), some (.d (.tup B)), some (.d (.tup L)), some (.d (.str [c])), none, none, none]) (fun N hN => ?_) ?_
  · simp only [sSet, d2]
    refine dVara rfl (c1 (n := n) rfl (lenTa rfl ?_))
    rw [List.length_map]
    refine contR_d rfl ((e_l_draw _ _ _).mpr ⟨by omega, by omega, by omega, fun r r0 r1 => ?_⟩)
    obtain ⟨y, e, hy⟩ := pick (l := ts.map D.str) r0 (by rw [List.length_map]; exact r1)
    obtain ⟨t, htt, rfl⟩ := List.mem_map.mp hy
    obtain ⟨c, tr2, rfl, hc⟩ : ∃ c tr2, t = c :: tr2 ∧ c ∈ SMALL := by
      have := ht.let_ t htt
      simp only [isLetL, Bool.and_eq_true, decide_eq_true_eq] at this
      cases t with
      | nil => simp at this
      | cons c r => exact ⟨c, r, rfl, allOf_iff.mp this.2 c (by simp)⟩
    have tl : (c :: tr2).length ≤ 1000 := by
      have := ht.let_ _ htt
      simp only [isLetL, Bool.and_eq_true, decide_eq_true_eq] at this
      omega
    simp only [vIx, seqU, e]
    refine dCa ?_
    simp only [atI_zero]
    exact ⟨thou tl, hN _ ⟨c, hc, rfl⟩⟩
  rintro δ ⟨c, hc, rfl⟩
  refine seqCut (fun δ => ∃ T, Wrong isLets 5 T ∧ δ = [some (.rdr ls (n - 1)), some (.d s.toD), some (.d b.toD), some (.d (.tup (bs.map Bk.toD))), some (.d (.tup (ts.map D.str))), some (.d (.tup S)), some (.d (.tup B)), some (.d (.tup L)), some (.d (.str [c])), some (.d (.tup T)), none, none]) (fun N hN => ?_) ?_
  · have w4 := wrong_lets (c := c) ht (show t0 ∈ ts by rw [ets]; simp) hc
    have a0 : atI (ts.map D.str) 0 = some (.str t0) := by rw [ets]; exact atI_zero _ _
    have tz : (ts.map D.str).length ≤ 40 := by rw [List.length_map]; exact le
    have tn : ts.map D.str ≠ [] := by rw [ets]; simp
    simp only [sSet]
    refine pu_tup (xs := noLetsL ts t0 c) (pua_cons (fun P q => ?_) (pua_cons (pu_cat (pu_var rfl) (pu_tup (pua_cons (pu_ix (pu_var rfl) pu_c a0) pua_nil) (Nat.le_of_ble_eq_true rfl)) tn (by show _ + 1 ≤ _; omega)) (pua_cons (pu_cat (pu_var rfl) (pu_tup (pua_cons pu_c pua_nil) (Nat.le_of_ble_eq_true rfl)) tn (by show _ + 1 ≤ _; omega)) (pua_cons pu_c (pua_cons (pu_tup pua_nil (Nat.le_of_ble_eq_true rfl)) pua_nil))))) (Nat.le_of_ble_eq_true rfl) _ ?_
    · refine tupLcA ?_
      refine dLc_filter (xs := ts.map D.str) (ok := fun _ => True) (lostP c) id (fun R' h => h) trivial (free1 rfl) (thou (by omega)) (fun x hx P hP => ?_) ?_
      · obtain ⟨t, _, rfl⟩ := List.mem_map.mp hx
        simp only [gN, dB, d2]
        refine dVara rfl (dVara rfl ?_)
        simp only [p2, sNe]
        exact hP _ rfl fun _ P' hP' => dVara rfl (hP' _ rfl)
      · rw [lost_filter]
        exact q
    · exact hN _ ⟨_, w4, rfl⟩
  rintro δ ⟨T, w4, rfl⟩
  refine seqCut (fun δ => ∃ y1 y2, y1 ∈ S ∧ y2 ∈ B ∧ δ = [some (.rdr ls (n - 1 - 1 - 1)), some (.d s.toD), some (.d b.toD), some (.d (.tup (bs.map Bk.toD))), some (.d (.tup (ts.map D.str))), some (.d (.tup S)), some (.d (.tup B)), some (.d (.tup L)), some (.d (.str [c])), some (.d (.tup T)), some (.lst [y1, y2]), none]) (fun N hN => ?_) ?_
  · simp only [sSet, dLst]
    refine dConsa (ixDr (n := n - 1) (xs := S) rfl rfl (by rw [w1.len]; rfl) (by omega) (by rw [w1.len]; omega) (by rw [w1.len]; omega) fun y1 h1 => ?_)
    refine dConsa (ixDr (n := n - 1 - 1) (xs := B) rfl rfl (by rw [w2.len]; rfl) (by omega) (by rw [w2.len]; omega) (by rw [w2.len]; omega) fun y2 h2 => ?_)
    exact ⟨mill (by simp), hN _ ⟨y1, y2, h1, h2, rfl⟩⟩
  rintro δ ⟨y1, y2, h1, h2, rfl⟩
  refine seqCut (fun δ => ∃ y3 y4, y3 ∈ L ∧ y4 ∈ T ∧ δ = [some (.rdr ls (n - 1 - 1 - 1 - 1 - 1)), some (.d s.toD), some (.d b.toD), some (.d (.tup (bs.map Bk.toD))), some (.d (.tup (ts.map D.str))), some (.d (.tup S)), some (.d (.tup B)), some (.d (.tup L)), some (.d (.str [c])), some (.d (.tup T)), some (.lst [y1, y2, y3, y4]), none]) (fun N hN => ?_) ?_
  · simp only [sSet, d2, dLst]
    refine dLista rfl ?_
    refine dConsa (ixDr (n := n - 1 - 1 - 1) (xs := L) rfl rfl (by rw [w3.len]; rfl) (by omega) (by rw [w3.len]; omega) (by rw [w3.len]; omega) fun y3 h3 => ?_)
    refine dConsa (ixDr (n := n - 1 - 1 - 1 - 1) (xs := T) rfl rfl (by rw [w4.len]; rfl) (by omega) (by rw [w4.len]; omega) (by rw [w4.len]; omega) fun y4 h4 => ?_)
    refine ⟨mill (by simp), ?_⟩
    exact ⟨mill (by simp), hN _ ⟨y3, y4, h3, h4, rfl⟩⟩
  rintro δ ⟨y3, y4, h3, h4, rfl⟩
  have bksm : Sm (.tup (bs.map Bk.toD)) := by
    rw [Sm_tup, List.length_map]
    refine ⟨by omega, Sms_of fun x hx => ?_⟩
    obtain ⟨b, hb, rfl⟩ := List.mem_map.mp hx
    exact (hbs b hb).2
  have bkl := isList_toD (fun b hb => (hbs b hb).1) nd
  refine refGuard style_lt (ds := [.int 0, y1, y2, .tup (bs.map Bk.toD), .tup (ts.map D.str)]) (pua_cons pu_c (pua_cons (pu_ixL rfl (atI_zero _ _)) (pua_cons (pu_ixL rfl (atI_1 _ _ _)) (pua_cons (pu_var rfl) (pua_cons (pu_var rfl) pua_nil))))) (fun R2 q => ⟨0, y1, _, _, _, rfl, w1.sm y1 h1, w1.no y1 h1, w1.fi y1 h1, q⟩) ?_
  refine refGuard style_lt (ds := [.int 1, y1, b.toD, y3, y4]) (pua_cons pu_c (pua_cons (pu_ixL rfl (atI_zero _ _)) (pua_cons (pu_var rfl) (pua_cons (pu_ixL rfl (atI_2 _ _ _ _)) (pua_cons (pu_ixL rfl (atI_3 _ _ _ _ _)) pua_nil))))) (fun R2 q => ⟨1, y1, _, _, _, rfl, w1.sm y1 h1, w1.no y1 h1, w1.fi y1 h1, q⟩) ?_
  refine refGuard book_lt (ds := [.int 0, s.toD, y2, .tup (bs.map Bk.toD), .tup (ts.map D.str)]) (pua_cons pu_c (pua_cons (pu_var rfl) (pua_cons (pu_ixL rfl (atI_1 _ _ _)) (pua_cons (pu_var rfl) (pua_cons (pu_var rfl) pua_nil))))) (fun R2 q => ⟨s, y2, _, _, rfl, ssm, sok, w2.sm y2 h2, w2.no y2 h2, w2.fi y2 h2, q⟩) ?_
  refine refGuard list_lt (ds := [.int 1, s.toD, b.toD, y3, y4]) (pua_cons pu_c (pua_cons (pu_var rfl) (pua_cons (pu_var rfl) (pua_cons (pu_ixL rfl (atI_2 _ _ _ _)) (pua_cons (pu_ixL rfl (atI_3 _ _ _ _ _)) pua_nil))))) (fun R2 q => ⟨s, b.toD, y3, y4, rfl, ssm, sok, w3.sm y3 h3, w3.no y3 h3, w3.fi y3 h3, q⟩) ?_
  refine refEnd letters_lt (ds := [.int 1, s.toD, b.toD, .tup (bs.map Bk.toD), y4]) (pua_cons pu_c (pua_cons (pu_var rfl) (pua_cons (pu_var rfl) (pua_cons (pu_var rfl) (pua_cons (pu_ixL rfl (atI_3 _ _ _ _ _)) pua_nil))))) (fun R2 q => ⟨s, b.toD, _, y4, rfl, ssm, sok, bksm, bkl, w4.sm y4 h4, w4.no y4 h4, w4.fi y4 h4, q⟩) ?_
  exact ⟨_, rfl, ⟨_, rfl⟩, h _⟩
section
variable {P : Program} {w : World} {K : PySem.W.Frag} {mg : Str → Option Value} {base : Heap}
theorem ok_l_refusals_right (T : Txt K mg) (F : Df K mg "_law_refusals_right" s_l_refusals_right) (O_l_draw : Ok P w K mg base 2 "_law_draw" ["_law_reader_here", "_law_many"] (spR K p_l_draw)) (O_l_refS : Ok P w K mg base 9 "_law_refused" ["_law_which", "_law_style_here", "_law_book_here", "_law_books", "_law_letters_here"] (spP K p_l_refS)) (O_l_refB : Ok P w K mg base 9 "_law_refused" ["_law_which", "_law_style_here", "_law_book_here", "_law_books", "_law_letters_here"] (spP K p_l_refB)) (O_l_refL : Ok P w K mg base 9 "_law_refused" ["_law_which", "_law_style_here", "_law_book_here", "_law_books", "_law_letters_here"] (spP K p_l_refL)) (O_l_refT : Ok P w K mg base 9 "_law_refused" ["_law_which", "_law_style_here", "_law_book_here", "_law_books", "_law_letters_here"] (spP K p_l_refT)) : Ok P w K mg base 10 "_law_refusals_right" ["_law_reader_here", "_law_style_here", "_law_book_here", "_law_books", "_law_letters_here"] (spR K p_l_refusals_right) := by
  obtain ⟨f, fd, F, g⟩ := F
  refine ⟨f, fd, fnR F sc_l_refusals_right (fun n a R h => len_l_refusals_right n a R h) (by decide) (ds := ds_l_refusals_right) (fun cdv A outer s H E hr => ?_) sem_l_refusals_right, g, F.kp, F.binds fun _ _ _ _ _ _ us hl => match us, hl with | [_, _, _, _, _], _ => rfl⟩
  exact (dss_cons (ds_set 5 (by decide) sc_l_refusals_right.nd (de_tup (da_cons de_non (da_cons (de_tup da_nil) (da_cons (de_tup (da_cons (de_tup da_nil) (da_cons (de_ix ix_seq lift_ix (dv 1) de_int) da_nil))) (da_cons (de_tup (da_cons (de_ix ix_seq lift_ix (dv 1) de_int) (da_cons (de_slice sl_tupF lift_slT (de_ix ix_seq lift_ix (dv 1) de_int) do_none (do_some de_int)) da_nil))) (da_cons (de_tup (da_cons (de_tup (da_cons (de_tup (da_cons (de_str e_year) da_nil)) (da_cons (de_tup (da_cons (de_str e_year) da_nil)) da_nil))) (da_cons (de_ix ix_seq lift_ix (dv 1) de_int) da_nil))) da_nil)))))))
    (dss_cons (ds_set 6 (by decide) sc_l_refusals_right.nd (de_tup (da_cons de_non (da_cons de_int (da_cons (de_slice sl_tupF lift_slT (dv 2) do_none (do_some de_int)) (da_cons (de_op op_catTF lift_catT (de_tup (da_cons (de_tup da_nil) da_nil)) (de_slice sl_tupF lift_slT (dv 2) (do_some de_int) do_none)) (da_cons (de_op op_catTF lift_catT (de_tup (da_cons (de_ix ix_seq lift_ix (dv 2) de_int) (da_cons de_int da_nil))) (de_slice sl_tupF lift_slT (dv 2) (do_some de_int) do_none)) (da_cons (de_op op_catTF lift_catT (de_tup (da_cons (de_ix ix_seq lift_ix (dv 2) de_int) (da_cons (de_ix ix_seq lift_ix (dv 2) de_int) (da_cons (de_str e_empty) da_nil)))) (de_slice sl_tupF lift_slT (dv 2) (do_some de_int) do_none)) da_nil))))))))
    (dss_cons (ds_set 7 (by decide) sc_l_refusals_right.nd (de_tup (da_cons de_non (da_cons (de_tup (da_cons (dv 2) (da_cons (dv 2) da_nil))) (da_cons (de_tup (da_cons (dv 2) (da_cons de_non da_nil))) (da_cons (dv 2) (da_cons de_int da_nil)))))))
    (dss_cons (ds_set 8 (by decide) sc_l_refusals_right.nd (de_ix ix_seq lift_ix (de_ix ix_seq lift_ix (dv 4) (dcallR O_l_draw (by exact hr.mono (by decide)) (by rfl) (da_cons (dv 0) (da_cons (de_callB call_len lift_len (by rfl) T.m_len (by decide +kernel) (da_cons (dv 4) da_nil)) da_nil)))) de_int))
    (dss_cons (ds_set 9 (by decide) sc_l_refusals_right.nd (de_tup (da_cons (de_callTy call_tupleF lift_tuple (by rfl) T.m_tuple (by decide +kernel) (da_cons (de_lc (own := [("_law_one", 11)]) rfl sc_l_refusals_right.nd (ic_tup (dv 4)) (blkOk_by (own := [("_law_one", 11)]) (N := N_l_refusals_right) (sc := defScope s_l_refusals_right) (by decide +kernel)) (fun _ _ _ _ _ => (dg_name 11 (by decide) sc_l_refusals_right.nd)) (fun _ _ _ _ _ => (dts_one (dt_cmp op_ne lift_ne (dv 11) (dv 8) (nomark _)))) (fun _ _ _ _ _ => (dv 11))) da_nil)) (da_cons (de_op op_catTF lift_catT (dv 4) (de_tup (da_cons (de_ix ix_seq lift_ix (dv 4) de_int) da_nil))) (da_cons (de_op op_catTF lift_catT (dv 4) (de_tup (da_cons (de_str e_abc) da_nil))) (da_cons de_non (da_cons (de_tup da_nil) da_nil)))))))
    (dss_cons (ds_set 10 (by decide) sc_l_refusals_right.nd (de_lst (da_cons (de_ix ix_seq lift_ix (dv 5) (dcallR O_l_draw (by exact hr.mono (by decide)) (by rfl) (da_cons (dv 0) (da_cons de_int da_nil)))) (da_cons (de_ix ix_seq lift_ix (dv 6) (dcallR O_l_draw (by exact hr.mono (by decide)) (by rfl) (da_cons (dv 0) (da_cons de_int da_nil)))) da_nil))))
    (dss_cons (ds_set 10 (by decide) sc_l_refusals_right.nd (de_op op_cat lift_catL (dv 10) (de_lst (da_cons (de_ix ix_seq lift_ix (dv 7) (dcallR O_l_draw (by exact hr.mono (by decide)) (by rfl) (da_cons (dv 0) (da_cons de_int da_nil)))) (da_cons (de_ix ix_seq lift_ix (dv 9) (dcallR O_l_draw (by exact hr.mono (by decide)) (by rfl) (da_cons (dv 0) (da_cons de_int da_nil)))) da_nil)))))
    (dss_cons (ds_if (dt_cmp (op_neD hr.units) lift_neD (dcall O_l_refS (by exact hr.mono (by decide)) (by rfl) (da_cons de_int (da_cons (de_ix ix_seq lift_ix (dv 10) de_int) (da_cons (de_ix ix_seq lift_ix (dv 10) de_int) (da_cons (dv 3) (da_cons (dv 4) da_nil)))))) (de_tup (da_cons (de_str e_style) (da_cons de_bl da_nil))) (nomark _)) (dss_one (ds_ret de_bl)) dss_nil)
    (dss_cons (ds_if (dt_cmp (op_neD hr.units) lift_neD (dcall O_l_refS (by exact hr.mono (by decide)) (by rfl) (da_cons de_int (da_cons (de_ix ix_seq lift_ix (dv 10) de_int) (da_cons (dv 2) (da_cons (de_ix ix_seq lift_ix (dv 10) de_int) (da_cons (de_ix ix_seq lift_ix (dv 10) de_int) da_nil)))))) (de_tup (da_cons (de_str e_style) (da_cons de_bl da_nil))) (nomark _)) (dss_one (ds_ret de_bl)) dss_nil)
    (dss_cons (ds_if (dt_cmp (op_neD hr.units) lift_neD (dcall O_l_refB (by exact hr.mono (by decide)) (by rfl) (da_cons de_int (da_cons (dv 1) (da_cons (de_ix ix_seq lift_ix (dv 10) de_int) (da_cons (dv 3) (da_cons (dv 4) da_nil)))))) (de_tup (da_cons (de_str e_book) (da_cons de_bl da_nil))) (nomark _)) (dss_one (ds_ret de_bl)) dss_nil)
    (dss_cons (ds_if (dt_cmp (op_neD hr.units) lift_neD (dcall O_l_refL (by exact hr.mono (by decide)) (by rfl) (da_cons de_int (da_cons (dv 1) (da_cons (dv 2) (da_cons (de_ix ix_seq lift_ix (dv 10) de_int) (da_cons (de_ix ix_seq lift_ix (dv 10) de_int) da_nil)))))) (de_tup (da_cons (de_str e_list) (da_cons de_bl da_nil))) (nomark _)) (dss_one (ds_ret de_bl)) dss_nil)
    (dss_one (ds_ret (de_cmp (op_eqD hr.units) lift_eqD (dcall O_l_refT (by exact hr.mono (by decide)) (by rfl) (da_cons de_int (da_cons (dv 1) (da_cons (dv 2) (da_cons (dv 3) (da_cons (de_ix ix_seq lift_ix (dv 10) de_int) da_nil)))))) (de_tup (da_cons (de_str e_letters) (da_cons de_bl da_nil))) (nomark _)))))))))))))))
end
end Ib
set_option Elab.async false
set_option linter.all false
set_option autoImplicit false
set_option maxRecDepth 100000
set_option maxHeartbeats 4000000
/-! IbK: set_entry and set_list called by names. -/
namespace Ib
open PySem PySem.Spec PyProof.Rows L2 TL PySem.W
variable [Tabl]
def perm2 {α : Type} : List α → List α
  | [a, b] => [b, a]
  | _ => []
def perm3 {α : Type} : List α → List α
  | [b, l, s] => [s, b, l]
  | _ => []
def gP {α : Type} (perm : List α → List α) : List α → List α → List α
  | [], ws => perm ws
  | _ :: _, _ => []
def OkK (P : Program) (w : World) (K : PySem.W.Frag) (mg : Str → Option Value) (base : Heap) (k : Nat) (x : Str) (ps ks : List Str) (perm : ∀ {α : Type}, List α → List α) (sp : Sp) : Prop :=
  ∃ f fd, FnOk P w K mg base CX0 k f fd ps sp ∧ mg x = some (.ref f) ∧ PySem.W.keepIn K (.ref f) = true ∧ KBinds K fd ps ks (gP perm) (gP perm)
theorem iss_perm2 {K : PySem.W.Frag} (H : Hp) (vs : List V) (ds : List D) (h : Iss K H vs ds) : Iss K H (gP perm2 [] vs) (perm2 ds) := by
  match vs, ds, h with
  | [], _, .nil => exact .nil
  | [_], _, .cons _ .nil => exact .nil
  | [_, _], _, .cons a (.cons b .nil) => exact .cons b (.cons a .nil)
  | _ :: _ :: _ :: _, _, .cons _ (.cons _ (.cons _ _)) => exact .nil
theorem iss_perm3 {K : PySem.W.Frag} (H : Hp) (vs : List V) (ds : List D) (h : Iss K H vs ds) : Iss K H (gP perm3 [] vs) (perm3 ds) := by
  match vs, ds, h with
  | [], _, .nil => exact .nil
  | [_], _, .cons _ .nil => exact .nil
  | [_, _], _, .cons _ (.cons _ .nil) => exact .nil
  | [_, _, _], _, .cons a (.cons b (.cons c .nil)) => exact .cons c (.cons a (.cons b .nil))
  | _ :: _ :: _ :: _ :: _, _, .cons _ (.cons _ (.cons _ (.cons _ _))) => exact .nil
theorem dcallK2 {X : Cx} {k : Nat} {ps ks : List Str} {psp : PSp} {x : Str} {p pos : Pos} {da : DA} {kws : List Keyword} (F : OkK X.prog X.w X.K X.mg X.base k x ps ks perm2 (spP X.K psp)) (hr : Room k X.A) (hg : Gl X x) (hkw : PK X kws (upA X.K da)) (hall : (backToKw pos (keywordEach kws X.env)).all (·.1.isSome) = true := by rfl) (hks : (backToKw pos (keywordEach kws X.env)).filterMap (·.1) = ks := by rfl)
    (hdb : (x == ("__debug__" : Str)) = false := by decide) (hpl : ((backTo pos (starEach [] X.env)).any (·.1) || (backToKw pos (keywordEach kws X.env)).any (·.1.isNone)) = false := by rfl) :
    PE X (.Call (.Name x p) [] kws pos) (up X.K (dCallK psp perm2 da)) := by
  obtain ⟨f, fd, F, hm, hk, hb⟩ := F
  exact de_callK F hr hg hm hk hb iss_perm2 hkw hall hks hdb hpl
theorem dcallK3 {X : Cx} {k : Nat} {ps ks : List Str} {psp : PSp} {x : Str} {p pos : Pos} {da : DA} {kws : List Keyword} (F : OkK X.prog X.w X.K X.mg X.base k x ps ks perm3 (spP X.K psp)) (hr : Room k X.A) (hg : Gl X x) (hkw : PK X kws (upA X.K da)) (hall : (backToKw pos (keywordEach kws X.env)).all (·.1.isSome) = true := by rfl) (hks : (backToKw pos (keywordEach kws X.env)).filterMap (·.1) = ks := by rfl)
    (hdb : (x == ("__debug__" : Str)) = false := by decide) (hpl : ((backTo pos (starEach [] X.env)).any (·.1) || (backToKw pos (keywordEach kws X.env)).any (·.1.isNone)) = false := by rfl) :
    PE X (.Call (.Name x p) [] kws pos) (up X.K (dCallK psp perm3 da)) := by
  obtain ⟨f, fd, F, hm, hk, hb⟩ := F
  exact de_callK F hr hg hm hk hb iss_perm3 hkw hall hks hdb hpl
section
variable {P : Program} {w : World} {K : PySem.W.Frag} {mg : Str → Option Value} {base : Heap}
theorem kbinds_set_entry {f : Addr} {fd : FuncData} (F : Fun K "set_entry" "set_entry" s_set_entry f fd) : KBinds K fd ["style", "book"] ["book", "style"] (gP perm2) (gP perm2) := by
  obtain ⟨oc, od, kV, doc, pm, an, cdv, ct, osl, rfl, lk, hcd⟩ := F.ex
  refine ⟨fun s us ws _ hl => ?_, fun {vs us zs ws} r rz => ?_⟩
  · match us, ws, hl with
    | [], [a, b], _ => exact .of_eq rfl
    | [], [], hl => cases hl
    | [], [_], hl => cases hl
    | [], _ :: _ :: _ :: _, hl => cases hl
    | _ :: _, _, hl => cases hl
  · match vs, us, r, zs, ws, rz with
    | [], [], _, [], [], _ => exact .nil
    | [], [], _, [_], [_], _ => exact .nil
    | [], [], _, [_, _], [_, _], .cons a (.cons b _) => exact .cons b (.cons a .nil)
    | [], [], _, _ :: _ :: _ :: _, _ :: _ :: _ :: _, _ => exact .nil
    | _ :: _, _ :: _, _, _, _, _ => exact .nil
theorem kbinds_set_list {f : Addr} {fd : FuncData} (F : Fun K "set_list" "set_list" s_set_list f fd) : KBinds K fd ["style", "books", "letters"] ["books", "letters", "style"] (gP perm3) (gP perm3) := by
  obtain ⟨oc, od, kV, doc, pm, an, cdv, ct, osl, rfl, lk, hcd⟩ := F.ex
  refine ⟨fun s us ws _ hl => ?_, fun {vs us zs ws} r rz => ?_⟩
  · match us, ws, hl with
    | [], [a, b, c], _ => exact .of_eq rfl
    | [], [], hl => cases hl
    | [], [_], hl => cases hl
    | [], [_, _], hl => cases hl
    | [], _ :: _ :: _ :: _ :: _, hl => cases hl
    | _ :: _, _, hl => cases hl
  · match vs, us, r, zs, ws, rz with
    | [], [], _, [], [], _ => exact .nil
    | [], [], _, [_], [_], _ => exact .nil
    | [], [], _, [_, _], [_, _], _ => exact .nil
    | [], [], _, [_, _, _], [_, _, _], .cons a (.cons b (.cons c _)) => exact .cons c (.cons a (.cons b .nil))
    | [], [], _, _ :: _ :: _ :: _ :: _, _ :: _ :: _ :: _ :: _, _ => exact .nil
    | _ :: _, _ :: _, _, _, _, _ => exact .nil
theorem okk_set_entry (T : Txt K mg) (F : Df K mg "set_entry" s_set_entry) (O_need_style : Ok P w K mg base 7 "need_style" ["value"] (spP K p_need_style)) (O_entry_of : Ok P w K mg base 7 "entry_of" ["style", "book"] (spP K p_entry_of)) (O_need_book : Ok P w K mg base 5 "need_book" ["value"] (spP K p_need_book)) : OkK P w K mg base 8 "set_entry" ["style", "book"] ["book", "style"] perm2 (spP K p_set_entry) := by
  obtain ⟨f, fd, F, g⟩ := F
  refine ⟨f, fd, fnP F sc_set_entry (fun a R h => len_set_entry a R h) (by decide) (ds := ds_set_entry) (fun cdv A outer s H E hr => ?_) sem_set_entry, g, F.kp, kbinds_set_entry F⟩
  exact (dss_cons (ds_expr (dcall O_need_style (by exact hr.mono (by decide)) (by rfl) (da_cons (dv 0) da_nil)))
    (dss_one (ds_ret (dcall O_entry_of (by exact hr.mono (by decide)) (by rfl) (da_cons (dv 0) (da_cons (dcall O_need_book (by exact hr.mono (by decide)) (by rfl) (da_cons (dv 1) da_nil)) da_nil))))))
theorem okk_set_list (T : Txt K mg) (F : Df K mg "set_list" s_set_list) (O_need_style : Ok P w K mg base 7 "need_style" ["value"] (spP K p_need_style)) (O_need_list : Ok P w K mg base 6 "need_list" ["value"] (spP K p_need_list)) (O_need_letters : Ok P w K mg base 4 "need_letters" ["value"] (spP K p_need_letters)) (O_ordered : Ok P w K mg base 7 "ordered" ["books", "letters"] (spP K p_ordered)) (O_entry_of : Ok P w K mg base 7 "entry_of" ["style", "book"] (spP K p_entry_of)) : OkK P w K mg base 8 "set_list" ["style", "books", "letters"] ["books", "letters", "style"] perm3 (spP K p_set_list) := by
  obtain ⟨f, fd, F, g⟩ := F
  refine ⟨f, fd, fnP F sc_set_list (fun a R h => len_set_list a R h) (by decide) (ds := ds_set_list) (fun cdv A outer s H E hr => ?_) sem_set_list, g, F.kp, kbinds_set_list F⟩
  exact (dss_cons (ds_expr (dcall O_need_style (by exact hr.mono (by decide)) (by rfl) (da_cons (dv 0) da_nil)))
    (dss_cons (ds_expr (dcall O_need_list (by exact hr.mono (by decide)) (by rfl) (da_cons (dv 1) da_nil)))
    (dss_cons (ds_expr (dcall O_need_letters (by exact hr.mono (by decide)) (by rfl) (da_cons (dv 2) da_nil)))
    (dss_one (ds_ret (de_ms PySem.F.plainAttrs_str PySem.F.slot_str_join PySem.F.type_str_join mt_join lift_join (de_str e_empty) (da_cons (de_lc (own := [("book", 3)]) rfl sc_set_list.nd (ic_tup (dcall O_ordered (by exact hr.mono (by decide)) (by rfl) (da_cons (dv 1) (da_cons (dv 2) da_nil)))) (blkOk_by (own := [("book", 3)]) (N := N_set_list) (sc := defScope s_set_list) (by decide +kernel)) (fun _ _ _ _ _ => (dg_name 3 (by decide) sc_set_list.nd)) (fun _ _ _ _ _ => dts_nil) (fun _ _ _ _ _ => (de_op op_add_str lift_sCat (dcall O_entry_of (by exact hr.mono (by decide)) (by rfl) (da_cons (dv 0) (da_cons (dv 3) da_nil))) (de_str e_x10)))) da_nil)))))))
end
end Ib
set_option Elab.async false
set_option linter.all false
set_option autoImplicit false
set_option maxRecDepth 100000
set_option maxHeartbeats 4000000
/-! IbM24: the law's body behind the reader. -/
namespace Ib
open PySem PySem.Spec PyProof.Rows L2 TL PySem.W
variable [Tabl]
def ds_law : DS :=
    (sSeq (sSet (dCallR p_l_style (dCons (dVar 1) dNil)) 2)
    (sSeq (sSet (dCallR p_l_letters (dCons (dVar 1) dNil)) 3)
    (sSeq (sSet (dLst dNil) 4)
    (sSeq (sFor (iR (dC (.int 12))) (gN 5) (sSeq (sSet (dCallR p_l_book (dCons (dVar 1) (dCons (d2 (p2 (iOp fun i j => i + j)) (dC (.int 1)) (d2 (p2 iDiv) (dVar 5) (dC (.int 4)))) (dCons (d2 (p2 iMod) (dCB (vOne fInt1) (dCons (d2 (p2 iDiv) (dVar 5) (dC (.int 2))) dNil)) (dC (.int 2))) (dCons (d2 (p2 iMod) (dCB (vOne fInt1) (dCons (dVar 5) dNil)) (dC (.int 2))) dNil))))) 7)
    (sSeq (sSet (dCallP p_l_line (dCons (d2 vIx (dVar 2) (dC (.int 0))) (dCons (d2 vIx (dVar 2) (dC (.int 1))) (dCons (dVar 7) dNil)))) 8)
    (sSeq (sIf (dNot (dB (dCallP p_l_same (dCons (dCallP p_set_entry (dCons (dVar 2) (dCons (dVar 7) dNil))) (dCons (dVar 8) dNil))))) (sRet (dC (.bl false))) sNext)
    (sIf (dAnd (dB (d2 (p2 (iCmp fun i j => decide (i < j))) (dCB (vOne fLen) (dCons (dVar 4) dNil)) (dC (.int 6)))) (dAnd (dB (d2 vNotInD (dVar 7) (dVar 4))) (dB (d2 (p2 sEq) (dCallR p_l_draw (dCons (dVar 1) (dCons (dC (.int 2)) dNil))) (dC (.int 0)))))) (sExpr (dML (mMut fAppend) (dVar 4) (dCons (dVar 7) dNil))) sNext)))))
    (sSeq (sIf (dNot (dB (dCallP p_l_same (dCons (dCallK p_set_entry perm2 (dCons (dVar 7) (dCons (dVar 2) dNil))) (dCons (dVar 8) dNil))))) (sRet (dC (.bl false))) sNext)
    (sSeq (sIf (dAnd (dB (d2 (p2 (iCmp fun i j => decide (j < i))) (dCB (vOne fLen) (dCons (dVar 4) dNil)) (dC (.int 0)))) (dAnd (dB (d2 (p2 (iCmp fun i j => decide (i < j))) (dCB (vOne fLen) (dCons (dVar 4) dNil)) (dC (.int 6)))) (dB (d2 (p2 sEq) (dCallR p_l_draw (dCons (dVar 1) (dCons (dC (.int 2)) dNil))) (dC (.int 0)))))) (sSeq (sSet (dTup (dCons (d2 vIx (d2 vIx (dVar 4) (dC (.int 0))) (dC (.int 0))) (dCons (d2 vIx (d2 vIx (dVar 4) (dC (.int 0))) (dC (.int 1))) (dCons (d2 (p2 sCat) (d2 vIx (d2 vIx (dVar 4) (dC (.int 0))) (dC (.int 2))) (dC (.str k__a))) (dCons (d2 vIx (d2 vIx (dVar 4) (dC (.int 0))) (dC (.int 3))) (dCons (d2 vIx (d2 vIx (dVar 4) (dC (.int 0))) (dC (.int 4))) dNil)))))) 9)
    (sSet (d2 vCatL (dVar 4) (dSl vSlL (dLst (dCons (dVar 9) dNil)) dNoP (dPart (dCB (vOne fInt1) (dCons (d2 vNotInD (dVar 9) (dVar 4)) dNil))))) 4)) sNext)
    (sSeq (sSet (dCallL p_l_listed (dCons (dVar 2) (dCons (dVar 4) (dCons (dVar 3) dNil)))) 6)
    (sSeq (sIf (dNot (dB (dCallP p_l_same (dCons (dCallP p_set_list (dCons (dVar 2) (dCons (dCB (vOne fTuple) (dCons (dVar 4) dNil)) (dCons (dVar 3) dNil)))) (dCons (dVar 6) dNil))))) (sRet (dC (.bl false))) sNext)
    (sSeq (sIf (dNot (dB (dCallP p_l_same (dCons (dCallK p_set_list perm3 (dCons (dCB (vOne fTuple) (dCons (dRev (dVar 4)) dNil)) (dCons (dVar 3) (dCons (dVar 2) dNil)))) (dCons (dVar 6) dNil))))) (sRet (dC (.bl false))) sNext)
    (sRet (dCallR p_l_refusals_right (dCons (dVar 1) (dCons (dVar 2) (dCons (dVar 7) (dCons (dCB (vOne fTuple) (dCons (dVar 4) dNil)) (dCons (dVar 3) dNil))))))))))))))))
section
variable {δ : DEnv} {a b : DE} {da : DA} {x y : D} {xs ys : List D} {i : Nat} {j : Int} {P : U → DEnv → Prop}
theorem cRd {rsp : RSp} {ls : Addr} {n : Nat} (h0 : δ[i]? = some (some (.rdr ls n))) (pa : PuA da δ xs) (h : rsp n xs fun w n' => P w (δ.set i (some (.rdr ls n')))) : dCallR rsp (dCons (dVar i) da) δ P := by
  simp only [dCallR, dCons, dVar, h0]
  refine pa _ ?_
  simp only [h0, allD_map]
  exact h
theorem cPd {psp : PSp} (pa : PuA da δ xs) (h : psp xs fun w => P w δ) : dCallP psp da δ P := by
  simp only [dCallP]
  refine pa _ ?_
  rw [allD_map]
  exact h
theorem cKd {psp : PSp} {perm : List D → List D} (pa : PuA da δ xs) (h : psp (perm xs) fun w => P w δ) : dCallK psp perm da δ P := by
  simp only [dCallK]
  refine pa _ ?_
  rw [allD_map]
  exact h
theorem pu_iop {f : Int → Int → Int} {i j : Int} (ha : Pu a δ (.int i)) (hb : Pu b δ (.int j)) : Pu (d2 (p2 (iOp f)) a b) δ (.int (f i j)) := fun P q => ha _ (hb _ q)
theorem pu_div {i j : Int} (ha : Pu a δ (.int i)) (hb : Pu b δ (.int j)) (h1 : 0 < j) (h2 : j < 1073741824) : Pu (d2 (p2 iDiv) a b) δ (.int (i / j)) := fun P q => ha _ (hb _ (by
  simp only [p2, iDiv]
  rw [if_pos ⟨h1, h2⟩]
  exact q))
theorem pu_mod {i j : Int} (ha : Pu a δ (.int i)) (hb : Pu b δ (.int j)) (h1 : 0 < j) : Pu (d2 (p2 iMod) a b) δ (.int (i % j)) := fun P q => ha _ (hb _ (by
  simp only [p2, iMod]
  rw [if_pos h1]
  exact q))
theorem pu_int {i : Int} (ha : Pu a δ (.int i)) : Pu (dCB (vOne fInt1) (dCons a dNil)) δ (.int i) := fun P q => ha _ q
theorem pu_cat2 {x y : Cs} (ha : Pu a δ (.str x)) (hb : Pu b δ (.str y)) (h : x.length + y.length ≤ 1000) : Pu (d2 (p2 sCat) a b) δ (.str (x ++ y)) := fun P q => ha _ (hb _ (sCat_ok h q))
theorem pu_tupL (e : δ[i]? = some (some (.lst xs))) : Pu (dCB (vOne fTuple) (dCons (dVar i) dNil)) δ (.tup xs) := fun P q => tupLa e q
theorem pu_tupRev (e : δ[i]? = some (some (.lst xs))) : Pu (dCB (vOne fTuple) (dCons (dRev (dVar i)) dNil)) δ (.tup xs.reverse) := fun P q => by
  simp only [dCB, dCons, dRev, dVar, e, lstU, dNil, vOne, fTuple]
  exact q
/-- if not same(e, x): return False -/
theorem sameGuard {e v : DE} {u : Cs} {rest : DS} {R : DEnds} (h : ∀ Q : U → DEnv → Prop, Q (.d (.str u)) δ → e δ Q) (hv : Pu v δ (.str u)) (hr : rest R δ) :
    sSeq (sIf (dNot (dB (dCallP p_l_same (dCons e (dCons v dNil))))) (sRet (dC (.bl false))) sNext) rest R δ := by
  refine seqV ?_
  simp only [sIf]
  unfold dNot
  simp only [dB]
  refine cPd (xs := [.str u, .str u]) (pua_cons h (pua_cons hv pua_nil)) ((e_l_same _ _ _).mpr ?_)
  rw [decide_eq_true rfl]
  exact hr
end
theorem any_eqD {bs : List Bk} {b : Bk} (h : (!(bs.map Bk.toD).any fun z => eqD z b.toD) = true) : b ∉ bs := by
  intro m
  have h := nbT h
  rw [List.any_eq_false] at h
  exact h b.toD (List.mem_map.mpr ⟨b, m, rfl⟩) (eqv_self _)
theorem notInLa {δ : DEnv} {P : U → DEnv → Prop} {i j : Nat} {bs : List Bk} {b : Bk} (e1 : δ[i]? = some (some (.d b.toD))) (e2 : δ[j]? = some (some (.lst (bs.map Bk.toD)))) (hb : b.Ok) (hbs : ∀ b ∈ bs, b.Ok) (h : P (.d (.bl (!(bs.map Bk.toD).any fun z => eqD z b.toD))) δ) : d2 vNotInD (dVar i) (dVar j) δ P := by
  simp only [d2, dVar, e1, e2, vNotInD, lstU]
  refine ⟨Fi_shp (Fi_Bk hb) (by omega), Fi_shps (n := 3) (fun x hx => ?_) (by omega), h⟩
  obtain ⟨c, hc, rfl⟩ := List.mem_map.mp hx
  exact Fi_Bk (hbs c hc)
theorem cLd {δ : DEnv} {P : U → DEnv → Prop} {lsp : LSp} {i j k : Nat} {x z : D} {xs : List D} (e1 : δ[i]? = some (some (.d x))) (e2 : δ[j]? = some (some (.lst xs))) (e3 : δ[k]? = some (some (.d z))) (h : lsp x xs z fun y => P (.d y) δ) : dCallL lsp (dCons (dVar i) (dCons (dVar j) (dCons (dVar k) dNil))) δ P := by
  simp only [dCallL, dCons, dVar, e1, e2, e3, dNil]
  exact h
/-- the list of a turn -/
structure LawI (bs : List Bk) : Prop where
  ok : ∀ b ∈ bs, b.Ok ∧ Sm b.toD ∧ b.title.length ≤ 100
  nd : bs.Nodup
  l6 : bs.length ≤ 6
theorem LawI.add {bs : List Bk} {b : Bk} (I : LawI bs) (hb : b.Ok ∧ Sm b.toD ∧ b.title.length ≤ 100) (hn : b ∉ bs) (hl : bs.length < 6) : LawI (bs ++ [b]) where
  ok := fun c hc => by
    rcases List.mem_append.mp hc with hc | hc
    · exact I.ok c hc
    · rw [List.mem_singleton.mp hc]; exact hb
  nd := by
    rw [List.nodup_append]
    exact ⟨I.nd, by simp, fun x hx y hy e => by rw [List.mem_singleton.mp hy] at e; rw [e] at hx; exact hn hx⟩
  l6 := by rw [List.length_append, List.length_singleton]; omega
abbrev stL (ls : Addr) (s : Sty) (ts : List Cs) (n : Nat) (bs : List Bk) (q5 q6 q7 q8 q9 : Option U) : DEnv := [none, some (.rdr ls n), some (.d s.toD), some (.d (.tup (ts.map D.str))), some (.lst (bs.map Bk.toD)), q5, q6, q7, q8, q9]
def nearB (b : Bk) : Bk := ⟨b.names, b.year, b.title ++ k__a, b.place, b.volume⟩
theorem near_ok {b : Bk} (h : b.Ok) (hs : Sm b.toD) (hl : b.title.length ≤ 100) : (nearB b).Ok ∧ Sm (nearB b).toD := by
  refine ⟨⟨h.n1, h.n3, h.fam, h.yr, ?_, h.pl, h.vo⟩, ?_⟩
  · exact tit_app (w := [97]) h.ti (by simp) (by decide)
  · obtain ⟨ns, y, t, p, v⟩ := b
    simp only at hl
    simp only [Bk.toD, Sm_tup, Sms_cons, Sms_nil, Sm_str, nearB] at hs ⊢
    exact ⟨by simp, hs.2.1, hs.2.2.1, by rw [List.length_append]; show _ + 2 ≤ _; omega, hs.2.2.2.2.1, hs.2.2.2.2.2.1, trivial⟩
theorem listed_eq {s : Sty} (h : s.Pre) (ts : List Cs) (bs : List Bk) : ((ordB ts bs).map fun b => lnL s.shown b s.pcs ++ [10]).flatten = ((ordB ts bs).map fun b => entL s b ++ [10]).flatten := by
  congr 1
  exact List.map_congr_left fun b _ => by rw [line_ent h]
theorem sem_law (ls : Addr) : ds_law { nx := fun _ => False, rt := fun w _ => w = .d (.bl true) } [none, some (.rdr ls 1000000), none, none, none, none, none, none, none, none] := by
  unfold ds_law
  refine seqV ?_
  simp only [sSet]
  refine cRd (n := 1000000) (xs := []) rfl pua_nil ((e_l_style _ _).mpr ⟨by omega, fun s n1 sok hn1 => ?_⟩)
  have ssm := Sm_Sty sok.pre
  dsimp only
  refine seqV ?_
  simp only [sSet]
  refine cRd (n := n1) (xs := []) rfl pua_nil ((e_l_letters _ _).mpr ⟨by omega, fun ts n2 ht hn2 => ?_⟩)
  dsimp only
  refine seqV ?_
  simp only [sSet, dLst]
  refine ⟨mill (by simp), ?_⟩
  refine seqCut (fun δ => ∃ (n : Nat) (bs : List Bk) (q5 : Option U) (b : Bk), δ = stL ls s ts n bs q5 none (some (.d b.toD)) (some (.d (.str (entL s b)))) none ∧ LawI bs ∧ 900000 ≤ n ∧ b.Ok ∧ Sm b.toD) (fun N hN => ?_) ?_
  · unfold sFor
    refine ⟨by decide, by decide, fun i δ => ∃ (n : Nat) (bs : List Bk) (q5 q7 q8 : Option U), δ = stL ls s ts n bs q5 none q7 q8 none ∧ LawI bs ∧ 990000 ≤ n + 500 * i ∧ (0 < i → ∃ b : Bk, q7 = some (.d b.toD) ∧ q8 = some (.d (.str (entL s b))) ∧ b.Ok ∧ Sm b.toD), ⟨n2, [], none, none, none, rfl, ⟨(fun _ h => nomatch h), List.nodup_nil, by simp⟩, by omega, fun z => absurd z (by omega)⟩, ?_, ?_⟩
    · rintro i x δ hx ⟨n, bs, q5, q7, q8, rfl, I, hn, -⟩
      obtain ⟨rfl, hlt⟩ : x = .int (i : Nat) ∧ i < 12 := by
        have := rngD_get hx
        exact ⟨this.1, this.2⟩
      simp only [gN]
      refine seqV ?_
      simp only [sSet]
      have e1 : (1 : Int) + (i : Int) / 4 = ((1 + i / 4 : Nat) : Int) := by omega
      have p1 : Pu (d2 (p2 (iOp fun i j => i + j)) (dC (.int 1)) (d2 (p2 iDiv) (dVar 5) (dC (.int 4)))) ((stL ls s ts n bs q5 none q7 q8 none).set 5 (some (.d (.int (i : Nat))))) (.int ((1 + i / 4 : Nat) : Int)) := by
        rw [← e1]
        exact pu_iop pu_c (pu_div (pu_var rfl) pu_c (by decide) (by decide))
      refine cRd (n := n) rfl (pua_cons p1 (pua_cons (pu_mod (pu_int (pu_div (pu_var rfl) pu_c (by decide) (by decide))) pu_c (by decide)) (pua_cons (pu_mod (pu_int (pu_var rfl)) pu_c (by decide)) pua_nil))) ((e_l_book _ _ _ _ _).mpr ⟨by omega, by omega, by omega, fun b n3 bok bsm btl _ _ _ hn3 => ?_⟩)
      dsimp only
      refine seqV ?_
      simp only [sSet]
      refine cPd (xs := [.tup (s.pcs.map Pc.toD), s.shown.toD, b.toD]) (pua_cons (pu_ix (xs := [.tup (s.pcs.map Pc.toD), s.shown.toD]) (pu_var rfl) pu_c (atI_zero _ _)) (pua_cons (pu_ix (xs := [.tup (s.pcs.map Pc.toD), s.shown.toD]) (pu_var rfl) pu_c (atI_1 _ _ _)) (pua_cons (pu_var rfl) pua_nil))) ((e_l_line _ _ _ _).mpr ⟨sok.pre.n10, sok.pre.pc, sok.pre.sh, bok, bsm, ?_⟩)
      rw [line_ent sok.pre]
      dsimp only
      refine sameGuard (u := entL s b) (fun Q h => cPd (xs := [s.toD, b.toD]) (pua_cons (pu_var rfl) (pua_cons (pu_var rfl) pua_nil)) ((e_set_entry _ _ _).mpr ⟨ssm, sok, bsm, bok, h⟩)) (pu_var rfl) ?_
      have no : ∀ n4, n3 ≤ n4 + 1 → ∃ (n : Nat) (bs' : List Bk) (q5 q7 q8 : Option U), stL ls s ts n4 bs (some (.d (.int (i : Nat)))) none (some (.d b.toD)) (some (.d (.str (entL s b)))) none = stL ls s ts n bs' q5 none q7 q8 none ∧ LawI bs' ∧ 990000 ≤ n + 500 * (i + 1) ∧ (0 < i + 1 → ∃ b : Bk, q7 = some (.d b.toD) ∧ q8 = some (.d (.str (entL s b))) ∧ b.Ok ∧ Sm b.toD) := fun n4 hn4 =>
        ⟨n4, bs, _, _, _, rfl, I, by omega, fun _ => ⟨b, rfl, rfl, bok, bsm⟩⟩
      simp only [sIf]
      unfold dAnd
      simp only [dB]
      refine lenLa (xs := bs.map Bk.toD) rfl (dCa ?_)
      simp only [p2, iCmp]
      refine ifB_of (fun h6 => ?_) fun _ => no n3 (by omega)
      have h6 : bs.length < 6 := by
        have := of_decide_eq_true h6
        rw [List.length_map] at this
        omega
      refine notInLa (b := b) (bs := bs) rfl rfl bok (fun c hc => (I.ok c hc).1) ?_
      dsimp only
      refine ifB_of (fun hni => ?_) fun _ => no n3 (by omega)
      have hni := any_eqD hni
      simp only [d2]
      refine cRd (n := n3) (xs := [.int 2]) rfl (pua_cons pu_c pua_nil) ((e_l_draw _ _ _).mpr ⟨by omega, by decide, by decide, fun r r0 r1 => ?_⟩)
      refine dCa ?_
      simp only [p2, sEq]
      refine ifB_of (fun _ => ?_) fun _ => no (n3 - 1) (by omega)
      simp only [sExpr, dML]
      refine dLista rfl ⟨rfl, dConsa (dVara rfl ?_)⟩
      refine appLa (xs := bs.map Bk.toD) (y := b.toD) rfl (by rw [List.length_map]; exact thou1 (by omega)) ?_
      refine ⟨n3 - 1, bs ++ [b], some (.d (.int (i : Nat))), some (.d b.toD), some (.d (.str (entL s b))), ?_, I.add ⟨bok, bsm, btl⟩ hni h6, by omega, fun _ => ⟨b, rfl, rfl, bok, bsm⟩⟩
      unfold stL
      rw [List.map_append]
      rfl
    · rintro δ ⟨n, bs, q5, q7, q8, rfl, I, hn, hb⟩
      have e12 : (rngD (12 : Int).toNat).length = 12 := rfl
      rw [e12] at hn hb
      obtain ⟨b, rfl, rfl, bok, bsm⟩ := hb (by omega)
      exact hN _ ⟨n, bs, q5, b, rfl, I, by omega, bok, bsm⟩
  rintro δ ⟨n, bs, q5, b, rfl, I, hn, bok, bsm⟩
  refine sameGuard (u := entL s b) (fun Q h => cKd (xs := [b.toD, s.toD]) (pua_cons (pu_var rfl) (pua_cons (pu_var rfl) pua_nil)) ((e_set_entry _ _ _).mpr ⟨ssm, sok, bsm, bok, h⟩)) (pu_var rfl) ?_
  refine seqCut (fun δ => ∃ (n : Nat) (bs : List Bk) (q5 q9 : Option U), δ = stL ls s ts n bs q5 none (some (.d b.toD)) (some (.d (.str (entL s b)))) q9 ∧ (∀ b ∈ bs, b.Ok ∧ Sm b.toD) ∧ bs.Nodup ∧ bs.length ≤ 10 ∧ 800000 ≤ n) (fun N hN => ?_) ?_
  · have no : ∀ n4, n ≤ n4 + 1 → N (stL ls s ts n4 bs q5 none (some (.d b.toD)) (some (.d (.str (entL s b)))) none) := fun n4 hn4 => hN _ ⟨n4, bs, _, _, rfl, fun b hb => ⟨(I.ok b hb).1, (I.ok b hb).2.1⟩, I.nd, by have := I.l6; omega, by omega⟩
    simp only [sIf]
    unfold dAnd
    simp only [dB]
    refine lenLa (xs := bs.map Bk.toD) rfl (dCa ?_)
    simp only [p2, iCmp]
    refine ifB_of (fun h0 => ?_) fun _ => no n (by omega)
    simp only [d2]
    refine lenLa (xs := bs.map Bk.toD) rfl (dCa ?_)
    simp only [p2, iCmp]
    refine ifB_of (fun h6 => ?_) fun _ => no n (by omega)
    refine cRd (n := n) (xs := [.int 2]) rfl (pua_cons pu_c pua_nil) ((e_l_draw _ _ _).mpr ⟨by omega, by decide, by decide, fun r r0 r1 => ?_⟩)
    refine dCa ?_
    simp only [p2, sEq]
    refine ifB_of (fun _ => ?_) fun _ => no (n - 1) (by omega)
    obtain ⟨c, cr, rfl⟩ : ∃ c cr, bs = c :: cr := by
      cases bs with
      | nil => simp at h0
      | cons c cr => exact ⟨c, cr, rfl⟩
    obtain ⟨cok, csm, ctl⟩ := I.ok c (by simp)
    obtain ⟨nok, nsm⟩ := near_ok cok csm ctl
    refine seqV ?_
    simp only [sSet]
    have ix : ∀ (j : Nat) (x : D), (bk5 c)[j]? = some x → Pu (d2 vIx (d2 vIx (dVar 4) (dC (.int 0))) (dC (.int (j : Nat)))) ((stL ls s ts n (c :: cr) q5 none (some (.d b.toD)) (some (.d (.str (entL s b)))) none).set 1 (some (.rdr ls (n - 1)))) x := fun j x e => pu_ix (xs := bk5 c) (pu_ixL (xs := (c :: cr).map Bk.toD) rfl (atI_zero _ _)) pu_c (atI_nat e)
    refine pu_tup (xs := bk5 (nearB c)) (pua_cons (ix 0 _ rfl) (pua_cons (ix 1 _ rfl) (pua_cons (pu_cat2 (ix 2 _ rfl) pu_c (by show _ + 2 ≤ _; omega)) (pua_cons (ix 3 _ rfl) (pua_cons (ix 4 _ rfl) pua_nil))))) (Nat.le_of_ble_eq_true rfl) _ ?_
    dsimp only
    simp only [sSet, d2, dSl, dLst]
    refine dLista rfl (dConsa (dVara rfl ?_))
    refine ⟨mill (by simp), ?_⟩
    simp only [dNoP, dPart, dCB, dCons]
    refine notInLa (b := nearB c) (bs := c :: cr) rfl rfl nok (fun c hc => (I.ok c hc).1) ?_
    simp only [dNil, vOne, fInt1]
    cases hni : (!((c :: cr).map Bk.toD).any fun z => eqD z (nearB c).toD) with
    | true =>
      have hni := any_eqD hni
      have J := I.nd
      simp only [if_true, vSlL, vCatL, lstU]
      rw [show cutD [D.tup (bk5 (nearB c))] none (some 1) = [(nearB c).toD] from cutD_to _ 1]
      refine ⟨by rw [List.length_map]; have := I.l6; exact thou (by simp only [List.length_singleton]; omega), ?_⟩
      refine hN _ ⟨n - 1, c :: cr ++ [nearB c], q5, some (.d (.tup (bk5 (nearB c)))), ?_, fun x hx => ?_, ?_, ?_, by omega⟩
      · unfold stL
        rw [List.map_append]
        rfl
      · rcases List.mem_append.mp hx with hx | hx
        · exact ⟨(I.ok x hx).1, (I.ok x hx).2.1⟩
        · rw [List.mem_singleton.mp hx]; exact ⟨nok, nsm⟩
      · rw [List.nodup_append]
        exact ⟨I.nd, by simp, fun x hx y hy e => by rw [List.mem_singleton.mp hy] at e; rw [e] at hx; exact hni hx⟩
      · have := I.l6
        rw [List.length_append, List.length_singleton]
        omega
    | false =>
      simp only [Bool.false_eq_true, if_false, vSlL, vCatL, lstU]
      rw [show cutD [D.tup (bk5 (nearB c))] none (some 0) = [] from cutD_to _ 0]
      refine ⟨by rw [List.length_map]; have := I.l6; exact thou (by simp only [List.length_nil]; omega), ?_⟩
      refine hN _ ⟨n - 1, c :: cr, q5, some (.d (.tup (bk5 (nearB c)))), ?_, fun x hx => ⟨(I.ok x hx).1, (I.ok x hx).2.1⟩, I.nd, by have := I.l6; omega, by omega⟩
      unfold stL
      rw [List.append_nil]
      rfl
  rintro δ ⟨n, bs, q5, q9, rfl, hbs, nd, hl, hn⟩
  have bksm : Sm (.tup (bs.map Bk.toD)) := by
    rw [Sm_tup, List.length_map]
    refine ⟨by omega, Sms_of fun x hx => ?_⟩
    obtain ⟨b, hb, rfl⟩ := List.mem_map.mp hx
    exact (hbs b hb).2
  have bksm2 : Sm (.tup (bs.reverse.map Bk.toD)) := by
    rw [Sm_tup, List.length_map, List.length_reverse]
    refine ⟨by omega, Sms_of fun x hx => ?_⟩
    obtain ⟨b, hb, rfl⟩ := List.mem_map.mp hx
    exact (hbs b (List.mem_reverse.mp hb)).2
  refine seqV ?_
  simp only [sSet]
  refine cLd (xs := bs.map Bk.toD) rfl rfl rfl (e_l_listed sok.pre hbs nd hl ht ?_)
  rw [listed_eq sok.pre]
  obtain ⟨L, hL⟩ : ∃ L, L = ((ordB ts bs).map fun b => entL s b ++ [10]).flatten := ⟨_, rfl⟩
  rw [← hL]
  dsimp only
  refine sameGuard (u := L) (fun Q h => cPd (xs := [s.toD, .tup (bs.map Bk.toD), .tup (ts.map D.str)]) (pua_cons (pu_var rfl) (pua_cons (pu_tupL rfl) (pua_cons (pu_var rfl) pua_nil))) ((e_set_list _ _ _ _).mpr ⟨ssm, sok, bksm, fun b hb => (hbs b hb).1, nd, hl, ht, by rw [← hL]; exact h⟩)) (pu_var rfl) ?_
  have rv : (bs.map Bk.toD).reverse = bs.reverse.map Bk.toD := List.map_reverse.symm
  have pr : Pu (dCB (vOne fTuple) (dCons (dRev (dVar 4)) dNil)) ((stL ls s ts n bs q5 none (some (.d b.toD)) (some (.d (.str (entL s b)))) q9).set 6 (some (.d (.str L)))) (.tup (bs.reverse.map Bk.toD)) := by
    rw [← rv]
    exact pu_tupRev rfl
  refine sameGuard (u := L) (fun Q h => cKd (xs := [.tup (bs.reverse.map Bk.toD), .tup (ts.map D.str), s.toD]) (pua_cons pr (pua_cons (pu_var rfl) (pua_cons (pu_var rfl) pua_nil))) ((e_set_list _ _ _ _).mpr ⟨ssm, sok, bksm2, fun b hb => (hbs b (List.mem_reverse.mp hb)).1, (List.reverse_perm bs).nodup_iff.mpr nd, by rw [List.length_reverse]; exact hl, ht, by rw [ordB_perm_eq ht (fun b hb => (hbs b hb).1) nd (List.reverse_perm bs), ← hL]; exact h⟩)) (pu_var rfl) ?_
  simp only [sRet]
  refine cRd (n := n) (xs := [s.toD, b.toD, .tup (bs.map Bk.toD), .tup (ts.map D.str)]) rfl (pua_cons (pu_var rfl) (pua_cons (pu_var rfl) (pua_cons (pu_tupL rfl) (pua_cons (pu_var rfl) pua_nil)))) ?_
  exact ⟨s, b, bs, ts, rfl, by omega, sok, bok, bsm, hbs, nd, hl, ht, fun n' => rfl⟩
section
variable {P : Program} {w : World} {K : PySem.W.Frag} {mg : Str → Option Value} {base : Heap}
theorem der_law (T : Txt K mg) (O_l_style : Ok P w K mg base 6 "_law_style" ["_law_reader_here"] (spR K p_l_style)) (O_l_letters : Ok P w K mg base 3 "_law_letters" ["_law_reader_here"] (spR K p_l_letters)) (O_l_book : Ok P w K mg base 5 "_law_book" ["_law_reader_here", "_law_many", "_law_placed", "_law_volumed"] (spR K p_l_book)) (O_l_line : Ok P w K mg base 4 "_law_line" ["_law_pieces", "_law_shown_here", "_law_book_here"] (spP K p_l_line)) (O_l_same : Ok P w K mg base 1 "_law_same" ["_law_actual", "_law_due"] (spP K p_l_same)) (O_set_entry : Ok P w K mg base 8 "set_entry" ["style", "book"] (spP K p_set_entry)) (O_l_draw : Ok P w K mg base 2 "_law_draw" ["_law_reader_here", "_law_many"] (spR K p_l_draw)) (O_l_listed : Ok P w K mg base 5 "_law_listed" ["_law_style_here", "_law_books", "_law_letters_here"] (spL K p_l_listed)) (O_set_list : Ok P w K mg base 8 "set_list" ["style", "books", "letters"] (spP K p_set_list)) (O_l_refusals_right : Ok P w K mg base 10 "_law_refusals_right" ["_law_reader_here", "_law_style_here", "_law_book_here", "_law_books", "_law_letters_here"] (spR K p_l_refusals_right)) (OK_set_entry : OkK P w K mg base 8 "set_entry" ["style", "book"] ["book", "style"] perm2 (spP K p_set_entry)) (OK_set_list : OkK P w K mg base 8 "set_list" ["style", "books", "letters"] ["books", "letters", "style"] perm3 (spP K p_set_list))
    {f : Addr} {cdv : Value} {A : Around} {outer : List PySem.Env} {s : Shared} {H : Hp} {E : XK} (hr : Room 10 (A.deeper (envOfC "law" (defScope s_law) s.heap.objs.size f cdv))) :
    PSs (cxOf CX0 P w K mg base N_law "law" (defScope s_law) f cdv A outer s H E).nox (defBody s_law).tail (upS K (kpn 1) ds_law) :=
  (dss_cons (ds_set 2 (by decide) sc_law.nd (dcallR O_l_style (by exact hr.mono (by decide)) (by rfl) (da_cons (dv 1) da_nil)))
    (dss_cons (ds_set 3 (by decide) sc_law.nd (dcallR O_l_letters (by exact hr.mono (by decide)) (by rfl) (da_cons (dv 1) da_nil)))
    (dss_cons (ds_set 4 (by decide) sc_law.nd (de_lst da_nil))
    (dss_cons (ds_for PassesOwn.never rfl (di_rng (by rfl) T.m_range de_int) (dg_name 5 (by decide) sc_law.nd) (dss_cons (ds_set 7 (by decide) sc_law.nd (dcallR O_l_book (by exact hr.mono (by decide)) (by rfl) (da_cons (dv 1) (da_cons (de_op op_add (lift_iOp fun i j => i + j) de_int (de_op op_fdiv lift_div (dv 5) de_int)) (da_cons (de_op op_mod lift_mod (de_callTy call_int1 lift_int1 (by rfl) T.m_int (by decide +kernel) (da_cons (de_op op_fdiv lift_div (dv 5) de_int) da_nil)) de_int) (da_cons (de_op op_mod lift_mod (de_callTy call_int1 lift_int1 (by rfl) T.m_int (by decide +kernel) (da_cons (dv 5) da_nil)) de_int) da_nil))))))
    (dss_cons (ds_set 8 (by decide) sc_law.nd (dcall O_l_line (by exact hr.mono (by decide)) (by rfl) (da_cons (de_ix ix_seq lift_ix (dv 2) de_int) (da_cons (de_ix ix_seq lift_ix (dv 2) de_int) (da_cons (dv 7) da_nil)))))
    (dss_cons (ds_if (dt_not (dt_val (dcall O_l_same (by exact hr.mono (by decide)) (by rfl) (da_cons (dcall O_set_entry (by exact hr.mono (by decide)) (by rfl) (da_cons (dv 2) (da_cons (dv 7) da_nil))) (da_cons (dv 8) da_nil))))) (dss_one (ds_ret de_bl)) dss_nil)
    (dss_one (ds_if (PW.pt (dw_and (dt_cmp op_lt (lift_iCmp (fun i j => decide (i < j))) (de_callB call_len lift_len (by rfl) T.m_len (by decide +kernel) (da_cons (dv 4) da_nil)) de_int (nomark _)) (dw_and (dt_cmp (op_notInD (units65 hr)) lift_notInD (dv 7) (dv 4) (by rfl)) (dw_and1 (dt_cmp op_eq lift_eq (dcallR O_l_draw (by exact hr.mono (by decide)) (by rfl) (da_cons (dv 1) (da_cons de_int da_nil))) de_int (nomark _)))))) (dss_one (ds_expr (de_ml PySem.F.slot_list_append PySem.F.type_list_append mt_append lift_append (dv 4) (da_cons (dv 7) da_nil)))) dss_nil))))))
    (dss_cons (ds_if (dt_not (dt_val (dcall O_l_same (by exact hr.mono (by decide)) (by rfl) (da_cons (dcallK2 OK_set_entry (by exact hr.mono (by decide)) (by rfl) (dk_cons (dv 7) (dk_cons (dv 2) dk_nil))) (da_cons (dv 8) da_nil))))) (dss_one (ds_ret de_bl)) dss_nil)
    (dss_cons (ds_if (PW.pt (dw_and (dt_cmp op_gt (lift_iCmp (fun i j => decide (j < i))) (de_callB call_len lift_len (by rfl) T.m_len (by decide +kernel) (da_cons (dv 4) da_nil)) de_int (nomark _)) (dw_and (dt_cmp op_lt (lift_iCmp (fun i j => decide (i < j))) (de_callB call_len lift_len (by rfl) T.m_len (by decide +kernel) (da_cons (dv 4) da_nil)) de_int (nomark _)) (dw_and1 (dt_cmp op_eq lift_eq (dcallR O_l_draw (by exact hr.mono (by decide)) (by rfl) (da_cons (dv 1) (da_cons de_int da_nil))) de_int (nomark _)))))) (dss_cons (ds_set 9 (by decide) sc_law.nd (de_tup (da_cons (de_ix ix_seq lift_ix (de_ix ix_seq lift_ix (dv 4) de_int) de_int) (da_cons (de_ix ix_seq lift_ix (de_ix ix_seq lift_ix (dv 4) de_int) de_int) (da_cons (de_op op_add_str lift_sCat (de_ix ix_seq lift_ix (de_ix ix_seq lift_ix (dv 4) de_int) de_int) (de_str e__a)) (da_cons (de_ix ix_seq lift_ix (de_ix ix_seq lift_ix (dv 4) de_int) de_int) (da_cons (de_ix ix_seq lift_ix (de_ix ix_seq lift_ix (dv 4) de_int) de_int) da_nil)))))))
    (dss_one (ds_set 4 (by decide) sc_law.nd (de_op op_cat lift_catL (dv 4) (de_slice sl_list lift_slL (de_lst (da_cons (dv 9) da_nil)) do_none (do_some (de_callTy call_int1 lift_int1 (by rfl) T.m_int (by decide +kernel) (da_cons (de_cmp (op_notInD (units65 hr)) lift_notInD (dv 9) (dv 4) (by rfl)) da_nil)))))))) dss_nil)
    (dss_cons (ds_set 6 (by decide) sc_law.nd (dcallL O_l_listed (by exact hr.mono (by decide)) (by rfl) (da_cons (dv 2) (da_cons (dv 4) (da_cons (dv 3) da_nil)))))
    (dss_cons (ds_if (dt_not (dt_val (dcall O_l_same (by exact hr.mono (by decide)) (by rfl) (da_cons (dcall O_set_list (by exact hr.mono (by decide)) (by rfl) (da_cons (dv 2) (da_cons (de_callTy call_tupleF lift_tuple (by rfl) T.m_tuple (by decide +kernel) (da_cons (dv 4) da_nil)) (da_cons (dv 3) da_nil)))) (da_cons (dv 6) da_nil))))) (dss_one (ds_ret de_bl)) dss_nil)
    (dss_cons (ds_if (dt_not (dt_val (dcall O_l_same (by exact hr.mono (by decide)) (by rfl) (da_cons (dcallK3 OK_set_list (by exact hr.mono (by decide)) (by rfl) (dk_cons (de_callTy call_tupleF lift_tuple (by rfl) T.m_tuple (by decide +kernel) (da_cons (de_rev (dv 4)) da_nil)) (dk_cons (dv 3) (dk_cons (dv 2) dk_nil)))) (da_cons (dv 6) da_nil))))) (dss_one (ds_ret de_bl)) dss_nil)
    (dss_one (ds_ret (dcallR O_l_refusals_right (by exact hr.mono (by decide)) (by rfl) (da_cons (dv 1) (da_cons (dv 2) (da_cons (dv 7) (da_cons (de_callTy call_tupleF lift_tuple (by rfl) T.m_tuple (by decide +kernel) (da_cons (dv 4) da_nil)) (da_cons (dv 3) da_nil)))))))))))))))))
end
end Ib
set_option Elab.async false
set_option linter.all false
set_option autoImplicit false
set_option maxRecDepth 100000
set_option maxHeartbeats 4000000
/-! IbM25: the law's reader is made; the law. -/
namespace Ib
open PySem PySem.Spec PyProof.Rows L2 TL PySem.W
variable [Tabl]
def spRd (K : PySem.W.Frag) : Sp := fun vs H Q _ => Tbs H ∧ ∃ (a : Addr) (ns : List Int), vs = [.ref a] ∧ SqL K H a (ns.map V.int) ∧ ∀ p ls H', RdrAt H' p ls 1000000 → H p = none → H ls = none → Stp (fun _ => False) H H' → Q (.ref p) H'
section
variable {P : Program} {w : World} {K : PySem.W.Frag} {mg : Str → Option Value} {base : Heap}
theorem ok_l_reader (T : Txt K mg) (F : Df K mg "_law_reader" s_l_reader) : Ok P w K mg base 1 "_law_reader" ["_law_script"] (spRd K) := by
  obtain ⟨f, fd, F, g⟩ := F
  refine ⟨f, fd, F.ok sc_l_reader (fun vs H Q E ⟨_, a, ns, e, _⟩ => by rw [e]; rfl) fun cdv A outer s H vs Q E hr h => ?_, g, F.kp, F.binds fun _ _ _ _ _ _ us hl => match us, hl with | [_], _ => rfl⟩
  obtain ⟨tb, a, ns, rfl, hs, q⟩ := h
  refine ⟨_, pss_one (ps_ret (pe_lst (pa_cons (pe_callTy call_list_of (by rfl) T.m_list (by decide +kernel) (pa_cons (pv 0) pa_nil)) (pa_cons pe_int (pa_cons pe_int (pa_cons pe_int (pa_cons pe_int (pa_cons pe_int (pa_cons (pe_op op_mod (pe_callTy call_int1 (by rfl) T.m_int (by decide +kernel) (pa_cons (pe_callB (cr_sum rfl) (by rfl) T.m_sum (by decide +kernel) (pa_cons (pv 0) pa_nil)) pa_nil)) pe_int) pa_nil))))))))), ?_⟩
  refine ⟨_, rfl, a, _, rfl, .inl hs, fun ls hls => ?_⟩
  have same : Same H (upd H ls (.lst (ns.map V.int))) := fun b o e => by rw [upd_ne (ne_of_none e hls)]; exact e
  refine ⟨_, rfl, a, ns, rfl, same.seq hs, ?_⟩
  refine .inl ⟨_, rfl, ?_⟩
  refine ⟨_, _, rfl, rfl, by show (0 : Int) < 2147483587; decide, ?_⟩
  refine ⟨thou (by simp), fun p hp => ?_⟩
  have ne : p ≠ ls := fun z => by rw [z, upd_same] at hp; cases hp
  have hp0 : H p = none := by rwa [upd_ne ne] at hp
  refine q p ls _ ⟨ne, ns, 0, 0, 0, 0, 0, ns.sum % 2147483587, ?_, upd_same, Int.le_refl _, Int.le_refl _, ⟨Int.le_refl _, by decide⟩, ⟨Int.le_refl _, by decide⟩, .inl rfl, Int.emod_nonneg _ (by decide), Int.emod_lt_of_pos _ (by decide)⟩ hp0 hls ?_
  · rw [upd_ne (Ne.symm ne), upd_same]
  · exact (Stp.new (m := fun _ => False) hls).trans (Stp.new (m := fun _ => False) hp) fun _ z => False.elim z
def spLaw (K : PySem.W.Frag) : Sp := fun vs H Q _ => Tbs H ∧ ∃ (a : Addr) (ns : List Int), vs = [.ref a] ∧ SqL K H a (ns.map V.int) ∧ ∀ H', Q (.bl true) H'
theorem law_body {f : Addr} {fd : FuncData} (T : Txt K mg) (F : Fun K "law" "law" s_law f fd) (OR : Ok P w K mg base 1 "_law_reader" ["_law_script"] (spRd K))
    (D : ∀ {f : Addr} {cdv : Value} {A : Around} {outer : List PySem.Env} {s : Shared} {H : Hp} {E : XK} (hr : Room 10 (A.deeper (envOfC "law" (defScope s_law) s.heap.objs.size f cdv))), PSs (cxOf CX0 P w K mg base N_law "law" (defScope s_law) f cdv A outer s H E).nox (defBody s_law).tail (upS K (kpn 1) ds_law)) :
    FnOk P w K mg base CX0 11 f fd ["_law_script"] (spLaw K) := by
  refine F.ok sc_law (fun vs H Q E ⟨_, a, ns, e, _⟩ => by rw [e]; rfl) fun cdv A outer s H vs Q E hr h => ?_
  obtain ⟨tb, a, ns, rfl, hs, q⟩ := h
  obtain ⟨fR, fdR, FR, gR, kR, bR⟩ := OR
  refine ⟨_, pss_cons (ps_set (i := 1) sc_law.nd rfl (Or.inl rfl) (pe_call FR (hr.mono (by decide)) (by rfl) gR kR bR .nil pass0 (pa_cons (pv 0) pa_nil))) (D hr), ?_⟩
  refine ⟨_, rfl, tb, a, ns, rfl, hs, fun p ls H' hrd hp hls st => ?_⟩
  have E0 : EnvOk K [some (.ref a), some (.ref p), none, none, none, none, none, none, none, none] H' [none, some (.rdr ls 1000000), none, none, none, none, none, none, none, none] := by
    have only : ∀ {i : Nat} {w : U}, ([none, some (.rdr ls 1000000), none, none, none, none, none, none, none, none] : DEnv)[i]? = some (some w) → i = 1 ∧ w = .rdr ls 1000000 := fun {i w} e => by
      match i, e with
      | 1, e => simp at e; exact ⟨rfl, e.symm⟩
      | 0, e => simp at e
      | 2, e => simp at e
      | 3, e => simp at e
      | 4, e => simp at e
      | 5, e => simp at e
      | 6, e => simp at e
      | 7, e => simp at e
      | 8, e => simp at e
      | 9, e => simp at e
      | i + 10, e => simp at e
    refine ⟨st.tab tb, rfl, fun i w e => ?_, fun i j v w v' w' b hij q1 q2 q3 q4 f g => ?_⟩
    · obtain ⟨rfl, rfl⟩ := only e
      exact ⟨.ref p, rfl, p, rfl, hrd⟩
    · obtain ⟨rfl, _⟩ := only q2
      obtain ⟨rfl, _⟩ := only q4
      exact hij rfl
  refine ⟨_, _, E0, sem_law ls, fun _ _ _ z _ => False.elim z, fun w δ' v σ' H2 hw _ t => ?_, fun _ _ _ z _ => False.elim z, fun _ _ _ z _ => False.elim z⟩
  have hw : w = .d (.bl true) := hw
  subst hw
  cases (show Is K H2 v (.bl true) from t)
  exact q H2
end
end Ib
set_option Elab.async false
set_option linter.all false
set_option autoImplicit false
set_option maxRecDepth 100000
set_option maxHeartbeats 4000000
/-! IbH: what the head is asked: the Hook and its facts. -/
namespace Ib
open PySem PySem.Spec PyProof.Rows L2 TL PySem.W
/-! ### data of the top -/
mutual
theorem isDB_ok {K : PySem.W.Frag} (H : Hp) : ∀ (d : D) {u : Value}, isDB K d u = true → ∃ v, RelV v u ∧ Is K H v d
  | .non, u, h => by
    cases u with
    | none => exact ⟨.non, rfl, .non⟩
    | _ => simp [isDB] at h
  | .bl b, u, h => by
    cases u with
    | bool c =>
      rw [isDB] at h
      exact ⟨.bl b, congrArg Value.bool (eq_of_beq h).symm, .bl b⟩
    | _ => simp [isDB] at h
  | .int i, u, h => by
    cases u with
    | int j t =>
      rw [isDB] at h
      have e := of_decide_eq_true h
      exact ⟨.int i, ⟨t, by rw [e]⟩, .int i⟩
    | _ => simp [isDB] at h
  | .str x, u, h => by
    cases u with
    | str y t =>
      rw [isDB] at h
      have e := of_decide_eq_true h
      exact ⟨.str (S x), ⟨t, by rw [e]⟩, .str x⟩
    | _ => simp [isDB] at h
  | .tup xs, u, h => by
    cases u with
    | ref a =>
      rw [isDB] at h
      split at h
      · rename_i c its n sl lk
        simp only [Bool.and_eq_true, decide_eq_true_eq] at h
        obtain ⟨h1, h2, h3, h4⟩ := h
        obtain ⟨vs, r, i⟩ := isDsB_ok H xs h4
        exact ⟨.ref a, rfl, .tup (.inr ⟨_, its, n, lk, congrArg Value.type h1, rfl, h2, r, rfl, Array.isEmpty_iff.mp h3⟩) i⟩
      · cases h
    | _ => simp [isDB] at h
theorem isDsB_ok {K : PySem.W.Frag} (H : Hp) : ∀ (ds : List D) {us : List Value}, isDsB K ds us = true → ∃ vs, Vals vs us ∧ Iss K H vs ds
  | [], us, h => by
    cases us with
    | nil => exact ⟨[], .nil, .nil⟩
    | cons u us => simp [isDsB] at h
  | d :: ds, us, h => by
    cases us with
    | nil => simp [isDsB] at h
    | cons u us =>
      rw [isDsB] at h
      rw [Bool.and_eq_true] at h
      obtain ⟨v, r, i⟩ := isDB_ok H d h.1
      obtain ⟨vs, rs, is⟩ := isDsB_ok H ds h.2
      exact ⟨v :: vs, .cons r rs, .cons i is⟩
end
theorem gdB_ok {K : PySem.W.Frag} {x : Str} {d : D} (h : gdB K x d = true) (H : Hp) : Is K H (.ref (He.ga K x)) d := by
  obtain ⟨v, r, i⟩ := isDB_ok H d h
  have e : v = .ref (He.ga K x) := by
    cases v with
    | ref a =>
      have : Value.ref (He.ga K x) = .ref a := r
      cases this
      rfl
    | _ => first
      | (obtain ⟨t, z⟩ := (show ∃ t, _ from r); cases z)
      | cases r
  rw [← e]
  exact i
/-! ### the error classes -/
theorem oexB_ok {K : PySem.W.Frag} {C : Addr} (q : oexB K C = true) : ∃ nm q N bs bm sn sub ab col dd k0 k1 k2 k3 k5, K.lookup C = some (excClassObj nm q C N bs bm true sn sub ab col dd k0 k1 k2 k3 k5 "ValueError.__new__") ∧ PySem.HandSPX.refsVE bm = true := by
  unfold oexB at q
  split at q
  · rename_i dd cd sl ho
    split at q
    · rename_i C' bm k0 k1 k2 k3 n k5 hm hs
      simp only [Bool.and_eq_true, beq_iff_eq, Bool.not_eq_true'] at q
      obtain ⟨⟨⟨⟨rfl, rfl⟩, hdct⟩, hdel⟩, ht⟩ := q
      obtain ⟨nm, bs, mro, ns, qn, hd, sn, sub, ab, col, del⟩ := cd
      dsimp only at hm hdel hdct
      subst hm hdel hdct
      have hsl : sl = #[k0, k1, k2, k3, some (.builtin "ValueError.__new__"), k5] := by
        obtain ⟨l⟩ := sl
        simp only at hs
        rw [hs]
      subst hsl
      exact ⟨nm, qn, ns, bs, bm, sn, sub, ab, col, dd, k0, k1, k2, k3, k5, ho, ht⟩
    · cases q
  · cases q
theorem eqB_ok {a b : Option Bool} (h : eqB a b = true) : a = b := by
  unfold eqB at h
  split at h
  · rw [eq_of_beq h]
  · cases h
theorem excB_ok {K : PySem.W.Frag} {D : Addr} (h : excB K D = true) : ExcC K D := by
  unfold excB at h
  simp only [Bool.and_eq_true] at h
  obtain ⟨h1, h2, h3, h4, h5, h6, h7, h8⟩ := h
  exact ⟨He.eqO_ok h1, He.eqO_ok h2, eqB_ok h3, h4, He.eqO_ok h5, He.eqO_ok h6, eqB_ok h7, eqB_ok h8⟩
theorem errB_ok {K : PySem.W.Frag} {x q tx : Str} {st : Stmt} {j : Nat} {a1 a2 p0 p1 p2 p3 p4 p5 q1 q2 q3 q4 : Pos} (h : errB K x = true) (hi : fnI K x = valI q st) (ha : defArgs st = iniArgs a1 a2) (hb : defBody st = iniBody tx j p0 p1 p2 p3 p4 p5 q1 q2 q3 q4) (hs : defScope st = iniScope)
    (hpl : ∃ pl : PySem.Env → Sem Bool, ∀ env : PySem.Env, eval (.Call (.Attribute (.Call (.Name "super" p0) [] [] p1) "__init__" p2) [.Constant (.str tx) j p3] [] p4) env = (do
      let ov ← attributeBase (.Call (.Name "super" p0) [] [] p1) "__init__" env (eval (.Call (.Name "super" p0) [] [] p1) env)
      standAt p2.atName
      let (f, first) ← holding [ov] (getMethod ov "__init__" (pl env))
      callWith p4 f first (backTo p4 (starEach [.Constant (.str tx) j p3] env)) [])) :
    (∃ fd, ErrT PySem.Challenge.pw_ibidem_k07_whole_entries_set K (He.ga K x) (iniA K x) fd ∧ L2.Binds K fd ["self", "value"] []) ∧ ErrC K (He.ga K x) (He.ga K "CiteError") := by
  unfold errB at h
  simp only [Bool.and_eq_true, decide_eq_true_eq] at h
  obtain ⟨h1, h2, h3, h4, h5, h6, h7, h8, h9, h10, h11, h12, h13, h14⟩ := h
  have hx := excB_ok h13
  refine ⟨?_, hx, ⟨hx.hg, hx.hk, hx.hs, hx.hd⟩, He.eqO_ok h8, eqB_ok h14⟩
  unfold fnB at h5
  unfold fnI at hi
  cases lk : K.lookup (iniA K x) with
  | none =>
    rw [lk] at h5
    cases h5
  | some o =>
    obtain ⟨oc, od, dt, osl⟩ := o
    rw [lk] at h5 hi
    cases dt with
    | func fd =>
      obtain ⟨n1, n2, n3, n4, n5, n6, n7, n8, n9, n10, n11, n12, n13, n14, n15⟩ := fd
      dsimp only at h5 hi
      simp only [valI, Option.some.injEq, Prod.mk.injEq] at hi
      obtain ⟨e1, e2, e3, e4, e5, e6, e7, e8⟩ := hi
      subst e1 e2 e3 e4 e5 e6 e8
      split at h5
      · rename_i cda cn cc
        simp only [Bool.and_eq_true] at h5
        obtain ⟨k1, k2, k3⟩ := h5
        have en : cn = "__class__" := by simpa using e7
        subst en
        refine ⟨_, ⟨⟨oexB_ok h1, He.eqO_ok h2, hx.hs, h3, h4⟩, ⟨oc, od, n10, n11, n9, n12, n14, cda, cc, osl, n2, tx, j, a1, a2, p0, p1, p2, p3, p4, p5, q1, q2, q3, q4, ?_, lk, k1, hpl, ?_, ?_⟩, He.eqO_ok h6, h7, He.eqO_ok h8, eqB_ok h9, He.eqO_ok h10, He.eqO_ok h11, eqB_ok h12⟩, ?_⟩
        · rw [ha, hb, hs]
        · split at k2
          · rename_i ccl cdd vs ccs lc
            split at k2
            · rename_i file tf hv
              exact ⟨ccl, cdd, vs, ccs, file, tf, lc, hv, k2⟩
            · cases k2
          · cases k2
        · split at k3
          · rename_i cl cld C' csl lc
            rw [beq_iff_eq] at k3
            exact ⟨cl, cld, csl, by rw [lc, k3]⟩
          · cases k3
        · rw [ha, hb, hs]
          exact .all fun us hl => match us, hl with
            | [_, _], _ => rfl
      · cases h5
    | _ => cases h5
end Ib
set_option Elab.async false
set_option linter.all false
set_option autoImplicit false
set_option maxRecDepth 100000
set_option maxHeartbeats 0
/-! IbI: the head's facts. -/
namespace Ib
open PySem PySem.Spec PyProof.Rows L2
theorem fun_of {K : PySem.W.Frag} {x : Str} {st : Stmt} {f : Addr} {fd : FuncData} (F : FunD K x x (defArgs st) (defBody st) (defScope st) [] [] f fd) : Fun K x x st f fd := by
  obtain ⟨oc, od, dV, kV, doc, pm, an, cdv, ct, osl, e, lk, hc, hD, _⟩ := F.ex
  rcases hD with ⟨_, rfl⟩ | ⟨z, _⟩
  · exact ⟨⟨oc, od, kV, doc, pm, an, cdv, ct, osl, e, lk, hc⟩, F.kp⟩
  · exact absurd rfl z
theorem df_of {K : PySem.W.Frag} {mg : Str → Option Value} {x : Str} {st : Stmt} (F : ∃ fd, FunD K x x (defArgs st) (defBody st) (defScope st) [] [] (He.fAd K (x, none)) fd) (g : mg x = some (.ref (He.ga K x))) : Df K mg x st := by
  obtain ⟨fd, F⟩ := F
  exact ⟨_, fd, fun_of F, g⟩
theorem txt_ok {K : PySem.W.Frag} {h : Heap} {mg : Str → Option Value} (KX : K.In h) (G : h.Ns mainGlobals mg) (c : He.SaysD faAll fnAll K) (t : gdB K "SHAPES" D_SHAPES = true ∧ gdB K "FIELDS" D_FIELDS = true ∧ gdB K "WAYS" D_WAYS = true) : Txt K mg := ⟨He.free_ok KX G (c.fact 76 (f := .free "isinstance") rfl),
  He.free_ok KX G (c.fact 77 (f := .free "str") rfl),
  He.free_ok KX G (c.fact 78 (f := .free "tuple") rfl),
  He.free_ok KX G (c.fact 79 (f := .free "int") rfl),
  He.free_ok KX G (c.fact 80 (f := .free "bool") rfl),
  He.free_ok KX G (c.fact 81 (f := .free "len") rfl),
  He.free_ok KX G (c.fact 82 (f := .free "all") rfl),
  He.free_ok KX G (c.fact 83 (f := .free "min") rfl),
  He.free_ok KX G (c.fact 84 (f := .free "range") rfl),
  He.free_ok KX G (c.fact 85 (f := .free "sorted") rfl),
  He.free_ok KX G (c.fact 86 (f := .free "list") rfl),
  He.free_ok KX G (c.fact 87 (f := .free "sum") rfl),
  He.free_ok KX G (c.fact 88 (f := .free "abs") rfl),
  He.int_ok KX G (c.fact 89 (f := .int "MOST_NAMES" 3) rfl),
  He.int_ok KX G (c.fact 90 (f := .int "FIRST_YEAR" 1000) rfl),
  He.int_ok KX G (c.fact 91 (f := .int "LAST_YEAR" 2999) rfl),
  He.int_ok KX G (c.fact 92 (f := .int "LAST_VOLUME" 999) rfl),
  He.int_ok KX G (c.fact 93 (f := .int "MOST_LETTERS" 40) rfl),
  He.int_ok KX G (c.fact 94 (f := .int "MOST_SIGNS" 2) rfl),
  He.int_ok KX G (c.fact 95 (f := .int "MOST_PIECES" 10) rfl),
  He.int_ok KX G (c.fact 96 (f := .int "MOST_IN_IF" 3) rfl),
  He.int_ok KX G (c.fact 97 (f := .int "MOST_MARK" 3) rfl),
  He.int_ok KX G (c.fact 98 (f := .int "MOST_GAP" 2) rfl),
  He.int_ok KX G (c.fact 99 (f := .int "MOST_SHOWN" 3) rfl),
  He.int_ok KX G (c.fact 100 (f := .int "SHOWN_SIZE" 7) rfl),
  He.str_ok KX G (c.fact 101 (f := .str "CAPITALS" (S k_ABCDEFGHIJKLMNOPQRST)) rfl),
  He.str_ok KX G (c.fact 102 (f := .str "SMALLS" (S k_abcdefghijklmnopqrst)) rfl),
  ⟨_, He.glo_ok KX G (c.fact 73 (f := .glo "SHAPES") rfl), fun H => gdB_ok (t.1) H⟩,
  ⟨_, He.glo_ok KX G (c.fact 74 (f := .glo "FIELDS") rfl), fun H => gdB_ok (t.2.1) H⟩,
  ⟨_, He.glo_ok KX G (c.fact 75 (f := .glo "WAYS") rfl), fun H => gdB_ok (t.2.2) H⟩⟩
theorem df_is_integer {K : PySem.W.Frag} {h : Heap} {mg : Str → Option Value} (KX : K.In h) (G : h.Ns mainGlobals mg) (c : He.SaysD faAll fnAll K) : Df K mg "is_integer" s_is_integer := df_of (c.def_ 0 (d := d_is_integer) rfl) (He.glo_ok KX G (c.fact 11 (f := .glo "is_integer") rfl))
theorem df_are_all_of {K : PySem.W.Frag} {h : Heap} {mg : Str → Option Value} (KX : K.In h) (G : h.Ns mainGlobals mg) (c : He.SaysD faAll fnAll K) : Df K mg "are_all_of" s_are_all_of := df_of (c.def_ 1 (d := d_are_all_of) rfl) (He.glo_ok KX G (c.fact 12 (f := .glo "are_all_of") rfl))
theorem df_is_family {K : PySem.W.Frag} {h : Heap} {mg : Str → Option Value} (KX : K.In h) (G : h.Ns mainGlobals mg) (c : He.SaysD faAll fnAll K) : Df K mg "is_family" s_is_family := df_of (c.def_ 2 (d := d_is_family) rfl) (He.glo_ok KX G (c.fact 13 (f := .glo "is_family") rfl))
theorem df_is_given {K : PySem.W.Frag} {h : Heap} {mg : Str → Option Value} (KX : K.In h) (G : h.Ns mainGlobals mg) (c : He.SaysD faAll fnAll K) : Df K mg "is_given" s_is_given := df_of (c.def_ 3 (d := d_is_given) rfl) (He.glo_ok KX G (c.fact 14 (f := .glo "is_given") rfl))
theorem df_is_title {K : PySem.W.Frag} {h : Heap} {mg : Str → Option Value} (KX : K.In h) (G : h.Ns mainGlobals mg) (c : He.SaysD faAll fnAll K) : Df K mg "is_title" s_is_title := df_of (c.def_ 4 (d := d_is_title) rfl) (He.glo_ok KX G (c.fact 15 (f := .glo "is_title") rfl))
theorem df_is_name {K : PySem.W.Frag} {h : Heap} {mg : Str → Option Value} (KX : K.In h) (G : h.Ns mainGlobals mg) (c : He.SaysD faAll fnAll K) : Df K mg "is_name" s_is_name := df_of (c.def_ 5 (d := d_is_name) rfl) (He.glo_ok KX G (c.fact 16 (f := .glo "is_name") rfl))
theorem df_is_book {K : PySem.W.Frag} {h : Heap} {mg : Str → Option Value} (KX : K.In h) (G : h.Ns mainGlobals mg) (c : He.SaysD faAll fnAll K) : Df K mg "is_book" s_is_book := df_of (c.def_ 6 (d := d_is_book) rfl) (He.glo_ok KX G (c.fact 17 (f := .glo "is_book") rfl))
theorem df_is_list {K : PySem.W.Frag} {h : Heap} {mg : Str → Option Value} (KX : K.In h) (G : h.Ns mainGlobals mg) (c : He.SaysD faAll fnAll K) : Df K mg "is_list" s_is_list := df_of (c.def_ 7 (d := d_is_list) rfl) (He.glo_ok KX G (c.fact 18 (f := .glo "is_list") rfl))
theorem df_need_book {K : PySem.W.Frag} {h : Heap} {mg : Str → Option Value} (KX : K.In h) (G : h.Ns mainGlobals mg) (c : He.SaysD faAll fnAll K) : Df K mg "need_book" s_need_book := df_of (c.def_ 8 (d := d_need_book) rfl) (He.glo_ok KX G (c.fact 19 (f := .glo "need_book") rfl))
theorem df_need_list {K : PySem.W.Frag} {h : Heap} {mg : Str → Option Value} (KX : K.In h) (G : h.Ns mainGlobals mg) (c : He.SaysD faAll fnAll K) : Df K mg "need_list" s_need_list := df_of (c.def_ 9 (d := d_need_list) rfl) (He.glo_ok KX G (c.fact 20 (f := .glo "need_list") rfl))
theorem df_shape_of {K : PySem.W.Frag} {h : Heap} {mg : Str → Option Value} (KX : K.In h) (G : h.Ns mainGlobals mg) (c : He.SaysD faAll fnAll K) : Df K mg "shape_of" s_shape_of := df_of (c.def_ 10 (d := d_shape_of) rfl) (He.glo_ok KX G (c.fact 21 (f := .glo "shape_of") rfl))
theorem df_is_letter {K : PySem.W.Frag} {h : Heap} {mg : Str → Option Value} (KX : K.In h) (G : h.Ns mainGlobals mg) (c : He.SaysD faAll fnAll K) : Df K mg "is_letter" s_is_letter := df_of (c.def_ 11 (d := d_is_letter) rfl) (He.glo_ok KX G (c.fact 22 (f := .glo "is_letter") rfl))
theorem df_is_letters {K : PySem.W.Frag} {h : Heap} {mg : Str → Option Value} (KX : K.In h) (G : h.Ns mainGlobals mg) (c : He.SaysD faAll fnAll K) : Df K mg "is_letters" s_is_letters := df_of (c.def_ 12 (d := d_is_letters) rfl) (He.glo_ok KX G (c.fact 23 (f := .glo "is_letters") rfl))
theorem df_need_letters {K : PySem.W.Frag} {h : Heap} {mg : Str → Option Value} (KX : K.In h) (G : h.Ns mainGlobals mg) (c : He.SaysD faAll fnAll K) : Df K mg "need_letters" s_need_letters := df_of (c.def_ 13 (d := d_need_letters) rfl) (He.glo_ok KX G (c.fact 24 (f := .glo "need_letters") rfl))
theorem df_cut {K : PySem.W.Frag} {h : Heap} {mg : Str → Option Value} (KX : K.In h) (G : h.Ns mainGlobals mg) (c : He.SaysD faAll fnAll K) : Df K mg "cut" s_cut := df_of (c.def_ 14 (d := d_cut) rfl) (He.glo_ok KX G (c.fact 25 (f := .glo "cut") rfl))
theorem df_key_by {K : PySem.W.Frag} {h : Heap} {mg : Str → Option Value} (KX : K.In h) (G : h.Ns mainGlobals mg) (c : He.SaysD faAll fnAll K) : Df K mg "key_by" s_key_by := df_of (c.def_ 15 (d := d_key_by) rfl) (He.glo_ok KX G (c.fact 26 (f := .glo "key_by") rfl))
theorem df_ordered {K : PySem.W.Frag} {h : Heap} {mg : Str → Option Value} (KX : K.In h) (G : h.Ns mainGlobals mg) (c : He.SaysD faAll fnAll K) : Df K mg "ordered" s_ordered := df_of (c.def_ 16 (d := d_ordered) rfl) (He.glo_ok KX G (c.fact 27 (f := .glo "ordered") rfl))
theorem df_is_text {K : PySem.W.Frag} {h : Heap} {mg : Str → Option Value} (KX : K.In h) (G : h.Ns mainGlobals mg) (c : He.SaysD faAll fnAll K) : Df K mg "is_text" s_is_text := df_of (c.def_ 17 (d := d_is_text) rfl) (He.glo_ok KX G (c.fact 28 (f := .glo "is_text") rfl))
theorem df_is_plain_piece {K : PySem.W.Frag} {h : Heap} {mg : Str → Option Value} (KX : K.In h) (G : h.Ns mainGlobals mg) (c : He.SaysD faAll fnAll K) : Df K mg "is_plain_piece" s_is_plain_piece := df_of (c.def_ 18 (d := d_is_plain_piece) rfl) (He.glo_ok KX G (c.fact 29 (f := .glo "is_plain_piece") rfl))
theorem df_are_plain_pieces {K : PySem.W.Frag} {h : Heap} {mg : Str → Option Value} (KX : K.In h) (G : h.Ns mainGlobals mg) (c : He.SaysD faAll fnAll K) : Df K mg "are_plain_pieces" s_are_plain_pieces := df_of (c.def_ 19 (d := d_are_plain_pieces) rfl) (He.glo_ok KX G (c.fact 30 (f := .glo "are_plain_pieces") rfl))
theorem df_is_piece {K : PySem.W.Frag} {h : Heap} {mg : Str → Option Value} (KX : K.In h) (G : h.Ns mainGlobals mg) (c : He.SaysD faAll fnAll K) : Df K mg "is_piece" s_is_piece := df_of (c.def_ 20 (d := d_is_piece) rfl) (He.glo_ok KX G (c.fact 31 (f := .glo "is_piece") rfl))
theorem df_is_shown {K : PySem.W.Frag} {h : Heap} {mg : Str → Option Value} (KX : K.In h) (G : h.Ns mainGlobals mg) (c : He.SaysD faAll fnAll K) : Df K mg "is_shown" s_is_shown := df_of (c.def_ 21 (d := d_is_shown) rfl) (He.glo_ok KX G (c.fact 32 (f := .glo "is_shown") rfl))
theorem df_signs_of {K : PySem.W.Frag} {h : Heap} {mg : Str → Option Value} (KX : K.In h) (G : h.Ns mainGlobals mg) (c : He.SaysD faAll fnAll K) : Df K mg "signs_of" s_signs_of := df_of (c.def_ 22 (d := d_signs_of) rfl) (He.glo_ok KX G (c.fact 33 (f := .glo "signs_of") rfl))
theorem df_name_tokens {K : PySem.W.Frag} {h : Heap} {mg : Str → Option Value} (KX : K.In h) (G : h.Ns mainGlobals mg) (c : He.SaysD faAll fnAll K) : Df K mg "name_tokens" s_name_tokens := df_of (c.def_ 23 (d := d_name_tokens) rfl) (He.glo_ok KX G (c.fact 34 (f := .glo "name_tokens") rfl))
theorem df_names_tokens {K : PySem.W.Frag} {h : Heap} {mg : Str → Option Value} (KX : K.In h) (G : h.Ns mainGlobals mg) (c : He.SaysD faAll fnAll K) : Df K mg "names_tokens" s_names_tokens := df_of (c.def_ 24 (d := d_names_tokens) rfl) (He.glo_ok KX G (c.fact 35 (f := .glo "names_tokens") rfl))
theorem df_plain_tokens {K : PySem.W.Frag} {h : Heap} {mg : Str → Option Value} (KX : K.In h) (G : h.Ns mainGlobals mg) (c : He.SaysD faAll fnAll K) : Df K mg "plain_tokens" s_plain_tokens := df_of (c.def_ 25 (d := d_plain_tokens) rfl) (He.glo_ok KX G (c.fact 36 (f := .glo "plain_tokens") rfl))
theorem df_plain_pieces {K : PySem.W.Frag} {h : Heap} {mg : Str → Option Value} (KX : K.In h) (G : h.Ns mainGlobals mg) (c : He.SaysD faAll fnAll K) : Df K mg "plain_pieces" s_plain_pieces := df_of (c.def_ 26 (d := d_plain_pieces) rfl) (He.glo_ok KX G (c.fact 37 (f := .glo "plain_pieces") rfl))
theorem df_row_of {K : PySem.W.Frag} {h : Heap} {mg : Str → Option Value} (KX : K.In h) (G : h.Ns mainGlobals mg) (c : He.SaysD faAll fnAll K) : Df K mg "row_of" s_row_of := df_of (c.def_ 27 (d := d_row_of) rfl) (He.glo_ok KX G (c.fact 38 (f := .glo "row_of") rfl))
theorem df_has_no_twice {K : PySem.W.Frag} {h : Heap} {mg : Str → Option Value} (KX : K.In h) (G : h.Ns mainGlobals mg) (c : He.SaysD faAll fnAll K) : Df K mg "has_no_twice" s_has_no_twice := df_of (c.def_ 28 (d := d_has_no_twice) rfl) (He.glo_ok KX G (c.fact 39 (f := .glo "has_no_twice") rfl))
theorem df_is_style {K : PySem.W.Frag} {h : Heap} {mg : Str → Option Value} (KX : K.In h) (G : h.Ns mainGlobals mg) (c : He.SaysD faAll fnAll K) : Df K mg "is_style" s_is_style := df_of (c.def_ 29 (d := d_is_style) rfl) (He.glo_ok KX G (c.fact 40 (f := .glo "is_style") rfl))
theorem df_need_style {K : PySem.W.Frag} {h : Heap} {mg : Str → Option Value} (KX : K.In h) (G : h.Ns mainGlobals mg) (c : He.SaysD faAll fnAll K) : Df K mg "need_style" s_need_style := df_of (c.def_ 30 (d := d_need_style) rfl) (He.glo_ok KX G (c.fact 41 (f := .glo "need_style") rfl))
theorem df_set_token {K : PySem.W.Frag} {h : Heap} {mg : Str → Option Value} (KX : K.In h) (G : h.Ns mainGlobals mg) (c : He.SaysD faAll fnAll K) : Df K mg "set_token" s_set_token := df_of (c.def_ 31 (d := d_set_token) rfl) (He.glo_ok KX G (c.fact 42 (f := .glo "set_token") rfl))
theorem df_entry_of {K : PySem.W.Frag} {h : Heap} {mg : Str → Option Value} (KX : K.In h) (G : h.Ns mainGlobals mg) (c : He.SaysD faAll fnAll K) : Df K mg "entry_of" s_entry_of := df_of (c.def_ 32 (d := d_entry_of) rfl) (He.glo_ok KX G (c.fact 43 (f := .glo "entry_of") rfl))
theorem df_set_entry {K : PySem.W.Frag} {h : Heap} {mg : Str → Option Value} (KX : K.In h) (G : h.Ns mainGlobals mg) (c : He.SaysD faAll fnAll K) : Df K mg "set_entry" s_set_entry := df_of (c.def_ 33 (d := d_set_entry) rfl) (He.glo_ok KX G (c.fact 44 (f := .glo "set_entry") rfl))
theorem df_set_list {K : PySem.W.Frag} {h : Heap} {mg : Str → Option Value} (KX : K.In h) (G : h.Ns mainGlobals mg) (c : He.SaysD faAll fnAll K) : Df K mg "set_list" s_set_list := df_of (c.def_ 34 (d := d_set_list) rfl) (He.glo_ok KX G (c.fact 45 (f := .glo "set_list") rfl))
theorem df_l_reader {K : PySem.W.Frag} {h : Heap} {mg : Str → Option Value} (KX : K.In h) (G : h.Ns mainGlobals mg) (c : He.SaysD faAll fnAll K) : Df K mg "_law_reader" s_l_reader := df_of (c.def_ 35 (d := d_l_reader) rfl) (He.glo_ok KX G (c.fact 46 (f := .glo "_law_reader") rfl))
theorem df_l_mixed {K : PySem.W.Frag} {h : Heap} {mg : Str → Option Value} (KX : K.In h) (G : h.Ns mainGlobals mg) (c : He.SaysD faAll fnAll K) : Df K mg "_law_mixed" s_l_mixed := df_of (c.def_ 36 (d := d_l_mixed) rfl) (He.glo_ok KX G (c.fact 47 (f := .glo "_law_mixed") rfl))
theorem df_l_draw {K : PySem.W.Frag} {h : Heap} {mg : Str → Option Value} (KX : K.In h) (G : h.Ns mainGlobals mg) (c : He.SaysD faAll fnAll K) : Df K mg "_law_draw" s_l_draw := df_of (c.def_ 37 (d := d_l_draw) rfl) (He.glo_ok KX G (c.fact 48 (f := .glo "_law_draw") rfl))
theorem df_l_small {K : PySem.W.Frag} {h : Heap} {mg : Str → Option Value} (KX : K.In h) (G : h.Ns mainGlobals mg) (c : He.SaysD faAll fnAll K) : Df K mg "_law_small" s_l_small := df_of (c.def_ 38 (d := d_l_small) rfl) (He.glo_ok KX G (c.fact 49 (f := .glo "_law_small") rfl))
theorem df_l_family {K : PySem.W.Frag} {h : Heap} {mg : Str → Option Value} (KX : K.In h) (G : h.Ns mainGlobals mg) (c : He.SaysD faAll fnAll K) : Df K mg "_law_family" s_l_family := df_of (c.def_ 39 (d := d_l_family) rfl) (He.glo_ok KX G (c.fact 50 (f := .glo "_law_family") rfl))
theorem df_l_book {K : PySem.W.Frag} {h : Heap} {mg : Str → Option Value} (KX : K.In h) (G : h.Ns mainGlobals mg) (c : He.SaysD faAll fnAll K) : Df K mg "_law_book" s_l_book := df_of (c.def_ 40 (d := d_l_book) rfl) (He.glo_ok KX G (c.fact 51 (f := .glo "_law_book") rfl))
theorem df_l_text {K : PySem.W.Frag} {h : Heap} {mg : Str → Option Value} (KX : K.In h) (G : h.Ns mainGlobals mg) (c : He.SaysD faAll fnAll K) : Df K mg "_law_text" s_l_text := df_of (c.def_ 41 (d := d_l_text) rfl) (He.glo_ok KX G (c.fact 52 (f := .glo "_law_text") rfl))
theorem df_l_shown {K : PySem.W.Frag} {h : Heap} {mg : Str → Option Value} (KX : K.In h) (G : h.Ns mainGlobals mg) (c : He.SaysD faAll fnAll K) : Df K mg "_law_shown" s_l_shown := df_of (c.def_ 42 (d := d_l_shown) rfl) (He.glo_ok KX G (c.fact 53 (f := .glo "_law_shown") rfl))
theorem df_l_mark {K : PySem.W.Frag} {h : Heap} {mg : Str → Option Value} (KX : K.In h) (G : h.Ns mainGlobals mg) (c : He.SaysD faAll fnAll K) : Df K mg "_law_mark" s_l_mark := df_of (c.def_ 43 (d := d_l_mark) rfl) (He.glo_ok KX G (c.fact 54 (f := .glo "_law_mark") rfl))
theorem df_l_piece {K : PySem.W.Frag} {h : Heap} {mg : Str → Option Value} (KX : K.In h) (G : h.Ns mainGlobals mg) (c : He.SaysD faAll fnAll K) : Df K mg "_law_piece" s_l_piece := df_of (c.def_ 44 (d := d_l_piece) rfl) (He.glo_ok KX G (c.fact 55 (f := .glo "_law_piece") rfl))
theorem df_l_style {K : PySem.W.Frag} {h : Heap} {mg : Str → Option Value} (KX : K.In h) (G : h.Ns mainGlobals mg) (c : He.SaysD faAll fnAll K) : Df K mg "_law_style" s_l_style := df_of (c.def_ 45 (d := d_l_style) rfl) (He.glo_ok KX G (c.fact 56 (f := .glo "_law_style") rfl))
theorem df_l_same {K : PySem.W.Frag} {h : Heap} {mg : Str → Option Value} (KX : K.In h) (G : h.Ns mainGlobals mg) (c : He.SaysD faAll fnAll K) : Df K mg "_law_same" s_l_same := df_of (c.def_ 46 (d := d_l_same) rfl) (He.glo_ok KX G (c.fact 57 (f := .glo "_law_same") rfl))
theorem df_l_given {K : PySem.W.Frag} {h : Heap} {mg : Str → Option Value} (KX : K.In h) (G : h.Ns mainGlobals mg) (c : He.SaysD faAll fnAll K) : Df K mg "_law_given" s_l_given := df_of (c.def_ 47 (d := d_l_given) rfl) (He.glo_ok KX G (c.fact 58 (f := .glo "_law_given") rfl))
theorem df_l_people {K : PySem.W.Frag} {h : Heap} {mg : Str → Option Value} (KX : K.In h) (G : h.Ns mainGlobals mg) (c : He.SaysD faAll fnAll K) : Df K mg "_law_people" s_l_people := df_of (c.def_ 48 (d := d_l_people) rfl) (He.glo_ok KX G (c.fact 59 (f := .glo "_law_people") rfl))
theorem df_l_line {K : PySem.W.Frag} {h : Heap} {mg : Str → Option Value} (KX : K.In h) (G : h.Ns mainGlobals mg) (c : He.SaysD faAll fnAll K) : Df K mg "_law_line" s_l_line := df_of (c.def_ 49 (d := d_l_line) rfl) (He.glo_ok KX G (c.fact 60 (f := .glo "_law_line") rfl))
theorem df_l_letters {K : PySem.W.Frag} {h : Heap} {mg : Str → Option Value} (KX : K.In h) (G : h.Ns mainGlobals mg) (c : He.SaysD faAll fnAll K) : Df K mg "_law_letters" s_l_letters := df_of (c.def_ 50 (d := d_l_letters) rfl) (He.glo_ok KX G (c.fact 61 (f := .glo "_law_letters") rfl))
theorem df_l_cut {K : PySem.W.Frag} {h : Heap} {mg : Str → Option Value} (KX : K.In h) (G : h.Ns mainGlobals mg) (c : He.SaysD faAll fnAll K) : Df K mg "_law_cut" s_l_cut := df_of (c.def_ 51 (d := d_l_cut) rfl) (He.glo_ok KX G (c.fact 62 (f := .glo "_law_cut") rfl))
theorem df_l_key {K : PySem.W.Frag} {h : Heap} {mg : Str → Option Value} (KX : K.In h) (G : h.Ns mainGlobals mg) (c : He.SaysD faAll fnAll K) : Df K mg "_law_key" s_l_key := df_of (c.def_ 52 (d := d_l_key) rfl) (He.glo_ok KX G (c.fact 63 (f := .glo "_law_key") rfl))
theorem df_l_listed {K : PySem.W.Frag} {h : Heap} {mg : Str → Option Value} (KX : K.In h) (G : h.Ns mainGlobals mg) (c : He.SaysD faAll fnAll K) : Df K mg "_law_listed" s_l_listed := df_of (c.def_ 53 (d := d_l_listed) rfl) (He.glo_ok KX G (c.fact 64 (f := .glo "_law_listed") rfl))
theorem df_l_refused {K : PySem.W.Frag} {h : Heap} {mg : Str → Option Value} (KX : K.In h) (G : h.Ns mainGlobals mg) (c : He.SaysD faAll fnAll K) : Df K mg "_law_refused" s_l_refused := df_of (c.def_ 54 (d := d_l_refused) rfl) (He.glo_ok KX G (c.fact 65 (f := .glo "_law_refused") rfl))
theorem df_l_refusals_right {K : PySem.W.Frag} {h : Heap} {mg : Str → Option Value} (KX : K.In h) (G : h.Ns mainGlobals mg) (c : He.SaysD faAll fnAll K) : Df K mg "_law_refusals_right" s_l_refusals_right := df_of (c.def_ 55 (d := d_l_refusals_right) rfl) (He.glo_ok KX G (c.fact 66 (f := .glo "_law_refusals_right") rfl))
theorem df_law {K : PySem.W.Frag} {h : Heap} {mg : Str → Option Value} (KX : K.In h) (G : h.Ns mainGlobals mg) (c : He.SaysD faAll fnAll K) : Df K mg "law" s_law := df_of (c.def_ 56 (d := d_law) rfl) (He.glo_ok KX G (c.fact 67 (f := .glo "law") rfl))
theorem gl_CiteError {K : PySem.W.Frag} {h : Heap} {mg : Str → Option Value} (KX : K.In h) (G : h.Ns mainGlobals mg) (c : He.SaysD faAll fnAll K) : mg "CiteError" = some (.ref (He.ga K "CiteError")) := He.glo_ok KX G (c.fact 68 (f := .glo "CiteError") rfl)
theorem gl_InvalidBook {K : PySem.W.Frag} {h : Heap} {mg : Str → Option Value} (KX : K.In h) (G : h.Ns mainGlobals mg) (c : He.SaysD faAll fnAll K) : mg "InvalidBook" = some (.ref (He.ga K "InvalidBook")) := He.glo_ok KX G (c.fact 69 (f := .glo "InvalidBook") rfl)
theorem gl_InvalidList {K : PySem.W.Frag} {h : Heap} {mg : Str → Option Value} (KX : K.In h) (G : h.Ns mainGlobals mg) (c : He.SaysD faAll fnAll K) : mg "InvalidList" = some (.ref (He.ga K "InvalidList")) := He.glo_ok KX G (c.fact 70 (f := .glo "InvalidList") rfl)
theorem gl_InvalidStyle {K : PySem.W.Frag} {h : Heap} {mg : Str → Option Value} (KX : K.In h) (G : h.Ns mainGlobals mg) (c : He.SaysD faAll fnAll K) : mg "InvalidStyle" = some (.ref (He.ga K "InvalidStyle")) := He.glo_ok KX G (c.fact 71 (f := .glo "InvalidStyle") rfl)
theorem gl_InvalidLetters {K : PySem.W.Frag} {h : Heap} {mg : Str → Option Value} (KX : K.In h) (G : h.Ns mainGlobals mg) (c : He.SaysD faAll fnAll K) : mg "InvalidLetters" = some (.ref (He.ga K "InvalidLetters")) := He.glo_ok KX G (c.fact 72 (f := .glo "InvalidLetters") rfl)
theorem gl_super {K : PySem.W.Frag} {h : Heap} {mg : Str → Option Value} (KX : K.In h) (G : h.Ns mainGlobals mg) (c : He.SaysD faAll fnAll K) : mg "super" = none := He.free_ok KX G (c.fact 10 (f := .free "super") rfl)
theorem ex_Style_Style {K : PySem.W.Frag} (c : He.SaysD faAll fnAll K) : PySem.W.exmOne K (.ref (He.ga K "InvalidStyle")) (.ref (He.ga K "InvalidStyle")) = some true := He.exm_ok (c.fact 0 (f := .exm "InvalidStyle" "InvalidStyle" true) rfl)
theorem ex_Book_Style {K : PySem.W.Frag} (c : He.SaysD faAll fnAll K) : PySem.W.exmOne K (.ref (He.ga K "InvalidBook")) (.ref (He.ga K "InvalidStyle")) = some false := He.exm_ok (c.fact 1 (f := .exm "InvalidBook" "InvalidStyle" false) rfl)
theorem ex_Book_Book {K : PySem.W.Frag} (c : He.SaysD faAll fnAll K) : PySem.W.exmOne K (.ref (He.ga K "InvalidBook")) (.ref (He.ga K "InvalidBook")) = some true := He.exm_ok (c.fact 2 (f := .exm "InvalidBook" "InvalidBook" true) rfl)
theorem ex_List_Style {K : PySem.W.Frag} (c : He.SaysD faAll fnAll K) : PySem.W.exmOne K (.ref (He.ga K "InvalidList")) (.ref (He.ga K "InvalidStyle")) = some false := He.exm_ok (c.fact 3 (f := .exm "InvalidList" "InvalidStyle" false) rfl)
theorem ex_List_Book {K : PySem.W.Frag} (c : He.SaysD faAll fnAll K) : PySem.W.exmOne K (.ref (He.ga K "InvalidList")) (.ref (He.ga K "InvalidBook")) = some false := He.exm_ok (c.fact 4 (f := .exm "InvalidList" "InvalidBook" false) rfl)
theorem ex_List_List {K : PySem.W.Frag} (c : He.SaysD faAll fnAll K) : PySem.W.exmOne K (.ref (He.ga K "InvalidList")) (.ref (He.ga K "InvalidList")) = some true := He.exm_ok (c.fact 5 (f := .exm "InvalidList" "InvalidList" true) rfl)
theorem ex_Letters_Style {K : PySem.W.Frag} (c : He.SaysD faAll fnAll K) : PySem.W.exmOne K (.ref (He.ga K "InvalidLetters")) (.ref (He.ga K "InvalidStyle")) = some false := He.exm_ok (c.fact 6 (f := .exm "InvalidLetters" "InvalidStyle" false) rfl)
theorem ex_Letters_Book {K : PySem.W.Frag} (c : He.SaysD faAll fnAll K) : PySem.W.exmOne K (.ref (He.ga K "InvalidLetters")) (.ref (He.ga K "InvalidBook")) = some false := He.exm_ok (c.fact 7 (f := .exm "InvalidLetters" "InvalidBook" false) rfl)
theorem ex_Letters_List {K : PySem.W.Frag} (c : He.SaysD faAll fnAll K) : PySem.W.exmOne K (.ref (He.ga K "InvalidLetters")) (.ref (He.ga K "InvalidList")) = some false := He.exm_ok (c.fact 8 (f := .exm "InvalidLetters" "InvalidList" false) rfl)
theorem ex_Letters_Letters {K : PySem.W.Frag} (c : He.SaysD faAll fnAll K) : PySem.W.exmOne K (.ref (He.ga K "InvalidLetters")) (.ref (He.ga K "InvalidLetters")) = some true := He.exm_ok (c.fact 9 (f := .exm "InvalidLetters" "InvalidLetters" true) rfl)
end Ib
set_option Elab.async false
set_option linter.all false
set_option autoImplicit false
set_option maxRecDepth 100000
set_option maxHeartbeats 4000000
/-! IbJ0: the error classes. -/
namespace Ib
open PySem PySem.Spec PyProof.Rows L2 TL PySem.W
theorem super_line {tx : Str} {j : Nat} {p0 p1 p2 p3 p4 : Pos} (h : (p2.endLine == p4.line) = true) : ∃ pl : PySem.Env → Sem Bool, ∀ env : PySem.Env, eval (.Call (.Attribute (.Call (.Name "super" p0) [] [] p1) "__init__" p2) [.Constant (.str tx) j p3] [] p4) env = (do
      let ov ← attributeBase (.Call (.Name "super" p0) [] [] p1) "__init__" env (eval (.Call (.Name "super" p0) [] [] p1) env)
      standAt p2.atName
      let (f, first) ← holding [ov] (getMethod ov "__init__" (pl env))
      callWith p4 f first (backTo p4 (starEach [.Constant (.str tx) j p3] env)) []) := by
  refine ⟨fun env => plainOf (.Call (.Name "super" p0) [] [] p1) env, fun env => ?_⟩
  have e : ∀ ov, methodCall (.Call (.Name "super" p0) [] [] p1) "__init__" p2 p4 env ov 1 (backTo p4 (starEach [.Constant (.str tx) j p3] env)) [] = (do
      let (f, first) ← holding [ov] (getMethod ov "__init__" (plainOf (.Call (.Name "super" p0) [] [] p1) env))
      callWith p4 f first (backTo p4 (starEach [.Constant (.str tx) j p3] env)) []) := fun ov => mcall_line rfl h
  have e0 : eval (.Call (.Attribute (.Call (.Name "super" p0) [] [] p1) "__init__" p2) [.Constant (.str tx) j p3] [] p4) env = (do
      let ov ← attributeBase (.Call (.Name "super" p0) [] [] p1) "__init__" env (eval (.Call (.Name "super" p0) [] [] p1) env)
      standAt p2.atName
      methodCall (.Call (.Name "super" p0) [] [] p1) "__init__" p2 p4 env ov 1 (backTo p4 (starEach [.Constant (.str tx) j p3] env)) []) := rfl
  rw [e0]
  simp only [e]
theorem er_book {K : PySem.W.Frag} (c : fnI K "InvalidBook" = valI "InvalidBook.__init__" (inClass (topS 2) 0)) (h : errB K "InvalidBook" = true) :
    (∃ fd, ErrT PySem.Challenge.pw_ibidem_k07_whole_entries_set K (He.ga K "InvalidBook") (iniA K "InvalidBook") fd ∧ L2.Binds K fd ["self", "value"] []) ∧ ErrC K (He.ga K "InvalidBook") (He.ga K "CiteError") :=
  errB_ok h c rfl rfl rfl (super_line rfl)
end Ib
set_option Elab.async false
set_option linter.all false
set_option autoImplicit false
set_option maxRecDepth 100000
set_option maxHeartbeats 4000000
/-! IbJ: all together. -/
namespace Ib
open PySem PySem.Spec PyProof.Rows L2 TL PySem.W
abbrev PW : Program := PySem.Challenge.pw_ibidem_k07_whole_entries_set
abbrev oC (K : PySem.W.Frag) : Addr := (He.cT K ("ordered", none)).1
abbrev oP (K : PySem.W.Frag) : Addr := (He.cT K ("ordered", none)).2
theorem ordered_code {K : PySem.W.Frag} {h : Heap} {mg : Str → Option Value} (KX : K.In h) (G : h.Ns mainGlobals mg) (c : He.SaysD faAll fnAll K) : ∃ f fd, Fun K "ordered" "ordered" s_ordered f fd ∧ mg "ordered" = some (.ref f) ∧ fd.code = .ref (oC K) := by
  obtain ⟨f, fd, F, g⟩ := df_ordered KX G c
  have ga : f = He.fAd K ("ordered", none) := by
    have g2 := (He.glo_ok KX G (c.fact 27 (f := .glo "ordered") rfl))
    rw [g] at g2
    cases g2
    rfl
  subst ga
  refine ⟨_, fd, F, g, ?_⟩
  obtain ⟨oc, od, kV, doc, pm, an, cdv, ct, osl, rfl, lk, hc⟩ := F.ex
  obtain ⟨cc, rfl⟩ := He.codeIn_ref hc
  show Value.ref cc = _
  exact congrArg Value.ref (He.codeOf_eq (p := ("ordered", none)) lk rfl).symm
theorem errs {K : PySem.W.Frag} {h : Heap} {mg : Str → Option Value} (KX : K.In h) (G : h.Ns mainGlobals mg) (c : SaysY h K) : Errs PW K mg (He.ga K "InvalidStyle") (He.ga K "InvalidBook") (He.ga K "InvalidList") (He.ga K "InvalidLetters") (He.ga K "CiteError") := by
  obtain ⟨⟨m1, m2, m3, m4⟩, _⟩ := (by simpa only [exY, Bool.and_eq_true] using c.more : (errB K "InvalidBook" = true ∧ errB K "InvalidList" = true ∧ errB K "InvalidStyle" = true ∧ errB K "InvalidLetters" = true) ∧ _)
  have i := c.ini
  simp only [clsY, List.map_cons, List.map_nil, List.cons.injEq, and_true] at i
  obtain ⟨i1, i2, i3, i4⟩ := i
  obtain ⟨⟨f1, a1, b1⟩, x1⟩ := errB_ok m1 i1 rfl rfl rfl (super_line rfl)
  obtain ⟨⟨f2, a2, b2⟩, x2⟩ := errB_ok m2 i2 rfl rfl rfl (super_line rfl)
  obtain ⟨⟨f3, a3, b3⟩, x3⟩ := errB_ok m3 i3 rfl rfl rfl (super_line rfl)
  obtain ⟨⟨f4, a4, b4⟩, x4⟩ := errB_ok m4 i4 rfl rfl rfl (super_line rfl)
  exact ⟨gl_CiteError KX G c.d, ⟨gl_InvalidStyle KX G c.d, _, f3, a3, b3⟩, ⟨gl_InvalidBook KX G c.d, _, f1, a1, b1⟩, ⟨gl_InvalidList KX G c.d, _, f2, a2, b2⟩, ⟨gl_InvalidLetters KX G c.d, _, f4, a4, b4⟩, x3, x1, x2, x4,
    ex_Style_Style c.d, ex_Book_Style c.d, ex_Book_Book c.d, ex_List_Style c.d, ex_List_Book c.d, ex_List_List c.d, ex_Letters_Style c.d, ex_Letters_Book c.d, ex_Letters_List c.d, ex_Letters_Letters c.d⟩
theorem law_ok [Tabl] {w : World} {K : PySem.W.Frag} {h : Heap} {mg : Str → Option Value} {base : Heap} {f : Addr} {fd : FuncData} (KX : K.In h) (G : h.Ns mainGlobals mg) (c : SaysY h K) (F : Fun K "law" "law" s_law f fd) (TB : LamX.TabB base mg (oC K) (oP K))
    (hT : (oP K, (("ordered.<locals>.<lambda>" : String) : Str)) ∈ Tabl.T) (hu : ∀ p ∈ Tabl.T, p.1 = oP K → p.2 = (("ordered.<locals>.<lambda>" : String) : Str)) : FnOk PW w K mg base CX0 11 f fd ["_law_script"] (spLaw K) := by
  have tups : gdB K "SHAPES" D_SHAPES = true ∧ gdB K "FIELDS" D_FIELDS = true ∧ gdB K "WAYS" D_WAYS = true := by
    have m := c.more
    simp only [exY, Bool.and_eq_true] at m
    exact m.2
  have T : Txt K mg := txt_ok KX G c.d tups
  have ER := errs KX G c
  have SU : Sup PW mg := ⟨gl_super KX G c.d, by decide +kernel⟩
  have O_set_token := ok_set_token (P := PySem.Challenge.pw_ibidem_k07_whole_entries_set) (w := w) (base := base) T (df_set_token KX G c.d)
  have O_l_mixed := ok_l_mixed (P := PySem.Challenge.pw_ibidem_k07_whole_entries_set) (w := w) (base := base) T (df_l_mixed KX G c.d)
  have O_l_draw := ok_l_draw (P := PySem.Challenge.pw_ibidem_k07_whole_entries_set) (w := w) (base := base) T (df_l_draw KX G c.d) O_l_mixed
  have O_is_text := ok_is_text (P := PySem.Challenge.pw_ibidem_k07_whole_entries_set) (w := w) (base := base) T (df_is_text KX G c.d)
  have O_is_plain_piece := ok_is_plain_piece (P := PySem.Challenge.pw_ibidem_k07_whole_entries_set) (w := w) (base := base) T (df_is_plain_piece KX G c.d) O_is_text
  have O_are_plain_pieces := ok_are_plain_pieces (P := PySem.Challenge.pw_ibidem_k07_whole_entries_set) (w := w) (base := base) T (df_are_plain_pieces KX G c.d) O_is_plain_piece
  have O_is_piece := ok_is_piece (P := PySem.Challenge.pw_ibidem_k07_whole_entries_set) (w := w) (base := base) T (df_is_piece KX G c.d) O_is_plain_piece O_are_plain_pieces
  have O_l_given := ok_l_given (P := PySem.Challenge.pw_ibidem_k07_whole_entries_set) (w := w) (base := base) T (df_l_given KX G c.d)
  have O_l_same := ok_l_same (P := PySem.Challenge.pw_ibidem_k07_whole_entries_set) (w := w) (base := base) T (df_l_same KX G c.d)
  have O_l_people := ok_l_people (P := PySem.Challenge.pw_ibidem_k07_whole_entries_set) (w := w) (base := base) T (df_l_people KX G c.d) O_l_given
  have O_l_text := ok_l_text (P := PySem.Challenge.pw_ibidem_k07_whole_entries_set) (w := w) (base := base) T (df_l_text KX G c.d) O_l_draw
  have O_l_mark := ok_l_mark (P := PySem.Challenge.pw_ibidem_k07_whole_entries_set) (w := w) (base := base) T (df_l_mark KX G c.d) O_l_text O_l_draw
  have O_l_shown := ok_l_shown (P := PySem.Challenge.pw_ibidem_k07_whole_entries_set) (w := w) (base := base) T (df_l_shown KX G c.d) O_l_draw O_l_text
  have O_l_cut := ok_l_cut (P := PySem.Challenge.pw_ibidem_k07_whole_entries_set) (w := w) (base := base) T (df_l_cut KX G c.d)
  have O_l_key := ok_l_key (P := PySem.Challenge.pw_ibidem_k07_whole_entries_set) (w := w) (base := base) T (df_l_key KX G c.d) O_l_cut
  have O_signs_of := ok_signs_of (P := PySem.Challenge.pw_ibidem_k07_whole_entries_set) (w := w) (base := base) T (df_signs_of KX G c.d)
  have O_name_tokens := ok_name_tokens (P := PySem.Challenge.pw_ibidem_k07_whole_entries_set) (w := w) (base := base) T (df_name_tokens KX G c.d) O_signs_of
  have O_names_tokens := ok_names_tokens (P := PySem.Challenge.pw_ibidem_k07_whole_entries_set) (w := w) (base := base) T (df_names_tokens KX G c.d) O_signs_of O_name_tokens
  have O_plain_tokens := ok_plain_tokens (P := PySem.Challenge.pw_ibidem_k07_whole_entries_set) (w := w) (base := base) T (df_plain_tokens KX G c.d) O_signs_of O_names_tokens
  have O_plain_pieces := ok_plain_pieces (P := PySem.Challenge.pw_ibidem_k07_whole_entries_set) (w := w) (base := base) T (df_plain_pieces KX G c.d)
  have O_row_of := ok_row_of (P := PySem.Challenge.pw_ibidem_k07_whole_entries_set) (w := w) (base := base) T (df_row_of KX G c.d) O_plain_pieces O_plain_tokens
  have O_has_no_twice := ok_has_no_twice (P := PySem.Challenge.pw_ibidem_k07_whole_entries_set) (w := w) (base := base) T (df_has_no_twice KX G c.d)
  have O_l_piece := ok_l_piece (P := PySem.Challenge.pw_ibidem_k07_whole_entries_set) (w := w) (base := base) T (df_l_piece KX G c.d) O_l_draw O_l_mark
  have O_l_reader := ok_l_reader (P := PySem.Challenge.pw_ibidem_k07_whole_entries_set) (w := w) (base := base) T (df_l_reader KX G c.d)
  have O_is_integer := ok_is_integer (P := PySem.Challenge.pw_ibidem_k07_whole_entries_set) (w := w) (base := base) T (df_is_integer KX G c.d)
  have O_are_all_of := ok_are_all_of (P := PySem.Challenge.pw_ibidem_k07_whole_entries_set) (w := w) (base := base) T (df_are_all_of KX G c.d)
  have O_is_family := ok_is_family (P := PySem.Challenge.pw_ibidem_k07_whole_entries_set) (w := w) (base := base) T (df_is_family KX G c.d) O_are_all_of
  have O_is_given := ok_is_given (P := PySem.Challenge.pw_ibidem_k07_whole_entries_set) (w := w) (base := base) T (df_is_given KX G c.d) O_are_all_of
  have O_is_title := ok_is_title (P := PySem.Challenge.pw_ibidem_k07_whole_entries_set) (w := w) (base := base) T (df_is_title KX G c.d) O_is_family O_are_all_of
  have O_is_name := ok_is_name (P := PySem.Challenge.pw_ibidem_k07_whole_entries_set) (w := w) (base := base) T (df_is_name KX G c.d) O_is_family O_is_given
  have O_is_book := ok_is_book (P := PySem.Challenge.pw_ibidem_k07_whole_entries_set) (w := w) (base := base) T (df_is_book KX G c.d) O_is_name O_is_integer O_is_title O_is_family
  have O_l_letters := ok_l_letters (P := PySem.Challenge.pw_ibidem_k07_whole_entries_set) (w := w) (base := base) T (df_l_letters KX G c.d) O_l_draw
  have O_is_letter := ok_is_letter (P := PySem.Challenge.pw_ibidem_k07_whole_entries_set) (w := w) (base := base) T (df_is_letter KX G c.d) O_are_all_of
  have O_is_letters := ok_is_letters (P := PySem.Challenge.pw_ibidem_k07_whole_entries_set) (w := w) (base := base) T (df_is_letters KX G c.d) O_is_letter
  have O_need_letters := ok_need_letters (P := PySem.Challenge.pw_ibidem_k07_whole_entries_set) (w := w) (base := base) T (df_need_letters KX G c.d) O_is_letters
  have O_cut := ok_cut (P := PySem.Challenge.pw_ibidem_k07_whole_entries_set) (w := w) (base := base) T (df_cut KX G c.d)
  have O_l_small := ok_l_small (P := PySem.Challenge.pw_ibidem_k07_whole_entries_set) (w := w) (base := base) T (df_l_small KX G c.d) O_l_draw
  have O_l_family := ok_l_family (P := PySem.Challenge.pw_ibidem_k07_whole_entries_set) (w := w) (base := base) T (df_l_family KX G c.d) O_l_small O_l_draw
  have O_l_book := ok_l_book (P := PySem.Challenge.pw_ibidem_k07_whole_entries_set) (w := w) (base := base) T (df_l_book KX G c.d) O_l_small O_l_draw O_l_family
  have O_is_shown := ok_is_shown (P := PySem.Challenge.pw_ibidem_k07_whole_entries_set) (w := w) (base := base) T (df_is_shown KX G c.d) O_is_text O_is_integer
  have O_is_style := ok_is_style (P := PySem.Challenge.pw_ibidem_k07_whole_entries_set) (w := w) (base := base) T (df_is_style KX G c.d) O_is_piece O_is_shown O_has_no_twice O_row_of
  have O_need_style := ok_need_style (P := PySem.Challenge.pw_ibidem_k07_whole_entries_set) (w := w) (base := base) T (df_need_style KX G c.d) O_is_style
  have O_is_list := ok_is_list (P := PySem.Challenge.pw_ibidem_k07_whole_entries_set) (w := w) (base := base) T (df_is_list KX G c.d) O_is_book
  have O_need_book := ok_need_book (P := PySem.Challenge.pw_ibidem_k07_whole_entries_set) (w := w) (base := base) T (df_need_book KX G c.d) O_is_book
  have O_need_list := ok_need_list (P := PySem.Challenge.pw_ibidem_k07_whole_entries_set) (w := w) (base := base) T (df_need_list KX G c.d) O_is_list
  have O_shape_of := ok_shape_of (P := PySem.Challenge.pw_ibidem_k07_whole_entries_set) (w := w) (base := base) T (df_shape_of KX G c.d) O_need_book
  have O_l_style := ok_l_style (P := PySem.Challenge.pw_ibidem_k07_whole_entries_set) (w := w) (base := base) T (df_l_style KX G c.d) O_l_draw O_l_piece O_l_mark O_l_shown
  have O_key_by := ok_key_by (P := PySem.Challenge.pw_ibidem_k07_whole_entries_set) (w := w) (base := base) T (df_key_by KX G c.d) O_cut
  have O_entry_of := ok_entry_of (P := PySem.Challenge.pw_ibidem_k07_whole_entries_set) (w := w) (base := base) T (df_entry_of KX G c.d) O_row_of O_shape_of O_set_token
  have O_set_entry := ok_set_entry (P := PySem.Challenge.pw_ibidem_k07_whole_entries_set) (w := w) (base := base) T (df_set_entry KX G c.d) O_need_style O_entry_of O_need_book
  have OK_set_entry := okk_set_entry (P := PySem.Challenge.pw_ibidem_k07_whole_entries_set) (w := w) (base := base) T (df_set_entry KX G c.d) O_need_style O_entry_of O_need_book
  have O_ordered := ok_ordered (P := PW) (w := w) (base := base) T (ordered_code KX G c.d) TB hT hu O_need_list O_need_letters O_key_by
  have O_l_line0 := ok_l_line0 (P := PW) (w := w) (base := base) T (df_l_line KX G c.d) O_l_people
  have O_l_line := ok_l_line (P := PW) (w := w) (base := base) T (df_l_line KX G c.d) O_l_people O_l_line0
  have O_l_listed := ok_l_listed (P := PySem.Challenge.pw_ibidem_k07_whole_entries_set) (w := w) (base := base) T (df_l_listed KX G c.d) O_l_key O_l_line
  have O_set_list := ok_set_list (P := PySem.Challenge.pw_ibidem_k07_whole_entries_set) (w := w) (base := base) T (df_set_list KX G c.d) O_need_style O_need_list O_need_letters O_ordered O_entry_of
  have OK_set_list := okk_set_list (P := PySem.Challenge.pw_ibidem_k07_whole_entries_set) (w := w) (base := base) T (df_set_list KX G c.d) O_need_style O_need_list O_need_letters O_ordered O_entry_of
  have Z1 := bad_need_style (w := w) (base := base) (df_need_style KX G c.d) SU ER.s O_is_style
  have Z2 := bad_need_book (w := w) (base := base) (df_need_book KX G c.d) SU ER.b O_is_book
  have Z3 := bad_need_list (w := w) (base := base) (df_need_list KX G c.d) SU ER.l O_is_list
  have Z4 := bad_need_letters (w := w) (base := base) (df_need_letters KX G c.d) SU ER.t O_is_letters
  have ZS := bad_set_entryS (df_set_entry KX G c.d) Z1
  have ZB := bad_set_entryB (df_set_entry KX G c.d) O_need_style O_entry_of Z2
  have ZLS := bad_set_listS (df_set_list KX G c.d) Z1
  have ZLB := bad_set_listB (df_set_list KX G c.d) O_need_style Z3
  have ZLL := bad_set_listL (df_set_list KX G c.d) O_need_style O_need_list Z4
  have R1 := (ok_l_refused T (df_l_refused KX G c.d) ER ZS ZLS).less refS_of
  have R2 := (ok_l_refused T (df_l_refused KX G c.d) ER ZB ZLS).less refB_of
  have R3 := (ok_l_refused T (df_l_refused KX G c.d) ER ZS ZLB).less refL_of
  have R4 := (ok_l_refused T (df_l_refused KX G c.d) ER ZS ZLL).less refT_of
  have O_l_refusals_right := ok_l_refusals_right T (df_l_refusals_right KX G c.d) O_l_draw R1 R2 R3 R4
  exact law_body T F O_l_reader (der_law T O_l_style O_l_letters O_l_book O_l_line O_l_same O_set_entry O_l_draw O_l_listed O_set_list O_l_refusals_right OK_set_entry OK_set_list)
end Ib
set_option Elab.async false
set_option linter.all false
set_option autoImplicit false
set_option maxRecDepth 100000
set_option maxHeartbeats 0
/-! IbQ: the law holds. -/
namespace Ib
open PySem PySem.Spec PyProof.Rows L2 PySem.W
theorem law_at {w : World} {mg : Str → Option Value} {fa : Addr} {h : Heap} (Y : hookY.says w h) (G : h.Ns mainGlobals mg) (hmg : mg "law" = some (.ref fa)) :
    ∃ K : PySem.W.Frag, K.In h ∧ LamX.LawAtS PySem.Challenge.rw_ibidem_k07_whole_entries_set w K CX0 11 63 "_law_script" mg fa h := by
  obtain ⟨K, KX, c⟩ := Y
  refine ⟨K, KX, ?_⟩
  obtain ⟨f, fd, F, g⟩ := df_law KX G c.d
  rw [hmg] at g
  cases g
  letI : Tabl := ⟨[(oP K, (("ordered.<locals>.<lambda>" : String) : Str))]⟩
  refine ⟨fd, [(oC K, oP K)], spLaw K, fun p hp => ?_, fun p hp => ?_, fun p hp => ?_, fun s u => ?_, fun H a ns hl hb hT hS => ?_, fun base KB GB TB => ?_⟩
  · rw [List.mem_singleton.mp hp]; exact c.empty
  · rw [List.mem_singleton.mp hp]; exact c.out
  · rw [List.mem_singleton.mp hp]; exact PySem.W.codeHd_of_K KX c.hd
  · obtain ⟨oc, od, kV, doc, pm, an, cdv, ct, osl, rfl, lk, hc⟩ := F.ex
    exact .of_eq rfl
  · refine ⟨fun p hp => ?_, a, ns, rfl, hS, fun _ => rfl⟩
    have hp : p ∈ [(oP K, (("ordered.<locals>.<lambda>" : String) : Str))] := hp
    rw [List.mem_singleton.mp hp]
    have e := hT (oC K, oP K) (by simp)
    exact ⟨#[], e, by simp [TriplesOk], fun pos cv z => by simp [codeAmong] at z⟩
  · exact law_ok KX G c F (TB (oC K, oP K) (by simp)) (by show _ ∈ [_]; simp) fun p hp _ => by
      have hp : p ∈ [(oP K, (("ordered.<locals>.<lambda>" : String) : Str))] := hp
      rw [List.mem_singleton.mp hp]
end Ib
open PySem PySem.W PySem.Calls PyProof.Rows
theorem PySem.Challenge.cw_ibidem_k07_whole_entries_set_holds : PySem.Challenge.rw_ibidem_k07_whole_entries_set.Holds := by
  w_on; o_law
  refine HandSHeadRun.head_any (r := OpenLaw.row PySem.Challenge.rw_ibidem_k07_whole_entries_set) (q := view (OpenLaw.row PySem.Challenge.rw_ibidem_k07_whole_entries_set).prog [84]) (H := Ib.hookY) (ob := Ib.obY) (M := 4000) (loose := Ib.looseAll) (d := HandSHeadRun.topDef (OpenLaw.row PySem.Challenge.rw_ibidem_k07_whole_entries_set).prog 84) (kwd := []) Ib.obY_eq
    (by kernel_rfl) (fun s => by kernel_rfl) Ib.runY (by kernel_rfl) (by kernel_rfl) (by kernel_rfl) (by rfl) (by first | assumption | decide +kernel) (by decide +kernel) ⟨rfl, rfl, rfl, rfl, rfl, by decide +kernel⟩ ?hw ?hc
  case hw => w_witness2
  case hc =>
    refine LamX.walk_ofTsE (l := PySem.Challenge.rw_ibidem_k07_whole_entries_set) (n := 63) (k := 11) (x := "_law_script") (CX := fun _ => L2.CX0) rfl (by decide) (by kernel_rfl) ⟨rfl, by decide, by decide⟩ ?F (fun _ _ _ _ _ z => z)
    intro w mg fa h Y G hmg0
    have hmg : mg ("law" : PySem.Str) = some (.ref fa) := by
      have e : (HandSHeadRun.topDef (OpenLaw.row PySem.Challenge.rw_ibidem_k07_whole_entries_set).prog 84).name = ("law" : PySem.Str) := by kernel_rfl
      rw [← e]
      exact hmg0
    exact Ib.law_at Y G hmg
