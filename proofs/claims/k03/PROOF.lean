import PyProof.Rows.All
import Wide.All
import OpenK.AllK
import Wide.FinOn
import HandS.ForMost
import HandS.TupAny
import HandS.TupMul
import HandS.Wide
import HandS.WideBits
import HandS.Flow
import HandS.Style
import HandS.IsInst
import HandS.Gcd
import HandS.Deep
import HandS.More
import HandS.Text
import HandS.DictComp
import PyProof.EqKinds
import PyProof.NeKinds
import PyProof.ReprRoads
import HandS.Words
import KE.GoesMore
import KE.GoesEnum
import HandS.Conv
import HandS.TupSets
import HandS.EndBits
import HandS.HeadHook2
import HandS.Head2
import HandS.HeadEnd
import HandS.HeadHook3
import HandS.HeadHook4
import HandS.Head3
import PySem.Challenge.RW_surehelms_k03_whole_points_of_lots
set_option Elab.async false
set_option linter.all false
/-! Sx, part A: worlds. A pure reading of Python over data trees, beside the abstract heap of the hand layer. -/
namespace Sx
open PySem PySem.Spec PyProof.Rows L2
abbrev D := PyData

/-- a mutable object of the pure reading; what is gone is no more written -/
inductive Cell where
  | lst (ds : List D)
  | ro (ds : List D)
  | gone
/-- a value of the pure reading: data, or a mutable object by its number -/
inductive R where
  | d (x : D)
  | ref (a : Nat)
theorem lst_ne {ds : List D} : Cell.lst ds ≠ .gone := fun z => by cases z
abbrev Store := List Cell
abbrev Ev := List (Option R)

/-- a written object of the text -/
def WrT (K : PySem.W.Frag) (a : Addr) (xs : List V) : Prop :=
  ∃ (o : Obj) (its : Array Value) (n : Nat), K.lookup a = some o ∧ o.cls = .type "tuple" ∧ o.data = .seq its n ∧ its.size ≤ sizeLine ∧ Vals xs its.toList

mutual
/-- v is the datum d, written in the text -/
inductive DaK (K : PySem.W.Frag) : V → D → Prop
  | non : DaK K .non .none
  | bl (b : Bool) : DaK K (.bl b) (.bool b)
  | int (i : Int) : DaK K (.int i) (.int i)
  | str (x : Str) : DaK K (.str x) (.str x)
  | tup {a : Addr} {xs : List V} {ds : List D} : WrT K a xs → DaKAll K xs ds → DaK K (.ref a) (.tuple ds)
inductive DaKAll (K : PySem.W.Frag) : List V → List D → Prop
  | nil : DaKAll K [] []
  | cons {v : V} {vs : List V} {d : D} {ds : List D} : DaK K v d → DaKAll K vs ds → DaKAll K (v :: vs) (d :: ds)
end
/-- the written dict at a has the keys ks, their values vs -/
def KeyAt (K : PySem.W.Frag) (a : Addr) (ks : List Str) (vs : List V) : Prop := ks.length = vs.length ∧ ∀ z : Str, match (ks.zip vs).lookup z with
  | some v => ∃ u, PySem.W.nsIn K a z = some (some u) ∧ RelV v u
  | none => PySem.W.nsIn K a z = some none
/-- a dict of the module with text keys -/
structure DctK (K : PySem.W.Frag) (a : Addr) (kvs : List (D × D)) : Prop where
  ex : ∃ (x : Str) (es : Array DictEntry) (n : Nat) (ks : List Str) (vs : List V) (ds : List D), PySem.W.nsIn K mainGlobals x = some (some (.ref a)) ∧ K.lookup a = some ⟨.type "dict", none, .dict es n, #[]⟩ ∧ (a == sysModules) = false ∧ KeyAt K a ks vs ∧ DaKAll K vs ds ∧ kvs = (ks.map PyData.str).zip ds
  ne : kvs ≠ []
mutual
/-- v is the datum d, without what stands at the addresses A -/
inductive Da (K : PySem.W.Frag) (H : Hp) (A : Addr → Prop) : V → D → Prop
  | non : Da K H A .non .none
  | bl (b : Bool) : Da K H A (.bl b) (.bool b)
  | int (i : Int) : Da K H A (.int i) (.int i)
  | str (x : Str) : Da K H A (.str x) (.str x)
  | lst {a : Addr} {xs : List V} {ds : List D} : H a = some (.lst xs) → ¬ A a → DaAll K H A xs ds → Da K H A (.ref a) (.list ds)
  | tup {a : Addr} {xs : List V} {ds : List D} : Rd H a (.tup xs) → ¬ A a → DaAll K H A xs ds → Da K H A (.ref a) (.tuple ds)
  | tupK {a : Addr} {xs : List V} {ds : List D} : WrT K a xs → DaAll K H A xs ds → Da K H A (.ref a) (.tuple ds)
  | dct {a : Addr} : H a = some (.dK []) → ¬ A a → Da K H A (.ref a) (.dict [])
  | dctK {a : Addr} {kvs : List (D × D)} : DctK K a kvs → Da K H A (.ref a) (.dict kvs)
inductive DaAll (K : PySem.W.Frag) (H : Hp) (A : Addr → Prop) : List V → List D → Prop
  | nil : DaAll K H A [] []
  | cons {v : V} {vs : List V} {d : D} {ds : List D} : Da K H A v d → DaAll K H A vs ds → DaAll K H A (v :: vs) (d :: ds)
end

section
variable {K : PySem.W.Frag} {H H' : Hp} {A A' : Addr → Prop}
theorem Rd.keep {a : Addr} {u : HO} (r : Rd H a u) (nA : ¬ A a) (k : ∀ a o, ¬ A a → H a = some o → H' a = some o) : Rd H' a u := by
  rcases r with r | ⟨o, r⟩
  · exact .inl (k a _ nA r)
  · exact .inr ⟨o, k a _ nA r⟩
theorem Rd.some {a : Addr} {u : HO} (r : Rd H a u) : ∃ o, H a = some o := by
  rcases r with r | ⟨o, r⟩
  · exact ⟨_, r⟩
  · exact ⟨_, r⟩
mutual
theorem Da.mono (k : ∀ a o, ¬ A a → H a = some o → H' a = some o) (l : ∀ a, A' a → A a ∨ H a = none) : ∀ (d : D) (v : V), Da K H A v d → Da K H' A' v d
  | .none, _, .non => .non
  | .bool _, _, .bl b => .bl b
  | .int _, _, .int i => .int i
  | .str _, _, .str x => .str x
  | .list ds, _, .lst r n h => .lst (k _ _ n r) (fun z => (l _ z).elim n fun e => by rw [e] at r; cases r) (DaAll.mono k l ds _ h)
  | .tuple ds, _, .tup r n h => .tup (Rd.keep r n k) (fun z => (l _ z).elim n fun e => by obtain ⟨o, q⟩ := Rd.some r; rw [e] at q; cases q) (DaAll.mono k l ds _ h)
  | .tuple ds, _, .tupK w h => .tupK w (DaAll.mono k l ds _ h)
  | .dict [], _, .dct r n => .dct (k _ _ n r) (fun z => (l _ z).elim n fun e => by rw [e] at r; cases r)
  | .dict _, _, .dctK h => .dctK h
theorem DaAll.mono (k : ∀ a o, ¬ A a → H a = some o → H' a = some o) (l : ∀ a, A' a → A a ∨ H a = none) : ∀ (ds : List D) (vs : List V), DaAll K H A vs ds → DaAll K H' A' vs ds
  | [], _, .nil => .nil
  | d :: ds, _, .cons h t => .cons (Da.mono k l d _ h) (DaAll.mono k l ds _ t)
end
mutual
theorem DaK.da {K : PySem.W.Frag} {H : Hp} {A : Addr → Prop} : ∀ (d : D) (v : V), DaK K v d → Da K H A v d
  | .none, _, .non => .non
  | .bool _, _, .bl b => .bl b
  | .int _, _, .int i => .int i
  | .str _, _, .str x => .str x
  | .tuple ds, _, .tup w h => .tupK w (DaKAll.da ds _ h)
theorem DaKAll.da {K : PySem.W.Frag} {H : Hp} {A : Addr → Prop} : ∀ (ds : List D) (vs : List V), DaKAll K vs ds → DaAll K H A vs ds
  | [], _, .nil => .nil
  | d :: ds, _, .cons h t => .cons (DaK.da d _ h) (DaKAll.da ds _ t)
end
theorem DaAll.length : ∀ {vs : List V} {ds : List D}, DaAll K H A vs ds → vs.length = ds.length
  | _, _, .nil => rfl
  | _, _, .cons _ t => congrArg (· + 1) (DaAll.length t)
theorem DaAll.get : ∀ {vs : List V} {ds : List D} {i : Nat} {d : D}, DaAll K H A vs ds → ds[i]? = some d → ∃ v, vs[i]? = some v ∧ Da K H A v d
  | _, _, _, _, .nil, e => by simp at e
  | _, _, 0, _, .cons r _, e => by simp at e; subst e; exact ⟨_, rfl, r⟩
  | _, _, i + 1, d, .cons _ t, e => by
    obtain ⟨u, h1, h2⟩ := DaAll.get (i := i) (d := d) t (by simpa using e)
    exact ⟨u, by simpa using h1, h2⟩
theorem DaAll.getV : ∀ {vs : List V} {ds : List D} {i : Nat} {v : V}, DaAll K H A vs ds → vs[i]? = some v → ∃ d, ds[i]? = some d ∧ Da K H A v d
  | _, _, _, _, .nil, e => by simp at e
  | _, _, 0, _, .cons r _, e => by simp at e; subst e; exact ⟨_, rfl, r⟩
  | _, _, i + 1, d, .cons _ t, e => by
    obtain ⟨u, h1, h2⟩ := DaAll.getV (i := i) (v := d) t (by simpa using e)
    exact ⟨u, by simpa using h1, h2⟩
theorem DaAll.set {v : V} {d : D} (r : Da K H A v d) : ∀ {vs : List V} {ds : List D} (i : Nat), DaAll K H A vs ds → DaAll K H A (vs.set i v) (ds.set i d)
  | _, _, _, .nil => .nil
  | _, _, 0, .cons _ t => .cons r t
  | _, _, i + 1, .cons q t => .cons q (DaAll.set r i t)
theorem DaAll.append : ∀ {vs ws : List V} {ds es : List D}, DaAll K H A vs ds → DaAll K H A ws es → DaAll K H A (vs ++ ws) (ds ++ es)
  | _, _, _, _, .nil, s => s
  | _, _, _, _, .cons r t, s => .cons r (DaAll.append t s)
theorem DaAll.take : ∀ {vs : List V} {ds : List D} (n : Nat), DaAll K H A vs ds → DaAll K H A (vs.take n) (ds.take n)
  | _, _, 0, _ => .nil
  | _, _, _ + 1, .nil => .nil
  | _, _, n + 1, .cons r t => .cons r (DaAll.take n t)
theorem DaAll.drop : ∀ {vs : List V} {ds : List D} (n : Nat), DaAll K H A vs ds → DaAll K H A (vs.drop n) (ds.drop n)
  | _, _, 0, r => r
  | _, _, _ + 1, .nil => .nil
  | _, _, n + 1, .cons _ t => DaAll.drop n t
theorem DaAll.reverse {vs : List V} {ds : List D} (h : DaAll K H A vs ds) : DaAll K H A vs.reverse ds.reverse := by
  induction vs generalizing ds with
  | nil => cases h; exact .nil
  | cons v vs ih =>
    cases h with
    | cons r t => rw [List.reverse_cons, List.reverse_cons]; exact (ih t).append (.cons r .nil)
theorem DaAll.rep {vs : List V} {ds : List D} (h : DaAll K H A vs ds) : ∀ k : Nat, DaAll K H A (List.replicate k vs).flatten (List.replicate k ds).flatten
  | 0 => .nil
  | k + 1 => by
    rw [List.replicate_succ, List.flatten_cons, List.replicate_succ, List.flatten_cons]
    exact h.append (DaAll.rep h k)
theorem sqT_of {a : Addr} {xs : List V} (h : Rd H a (.tup xs) ∨ WrT K a xs) : SqT K H a xs := h
/-- a datum's list, its tuple -/
theorem Da.asL {v : V} {ds : List D} (h : Da K H A v (.list ds)) : ∃ a xs, v = .ref a ∧ H a = some (.lst xs) ∧ DaAll K H A xs ds := by
  cases h with
  | lst r n h => exact ⟨_, _, rfl, r, h⟩
theorem Da.asT {v : V} {ds : List D} (h : Da K H A v (.tuple ds)) : ∃ a xs, v = .ref a ∧ SqT K H a xs ∧ DaAll K H A xs ds := by
  cases h with
  | tup r n h => exact ⟨_, _, rfl, .inl r, h⟩
  | tupK w h => exact ⟨_, _, rfl, .inr w, h⟩
mutual
theorem Da.dp : ∀ (d : D) (v : V), Da K H A v d → d.canLay0 = true → Dp K H v d
  | .none, _, .non, _ => .non
  | .bool _, _, .bl b, _ => .bl b
  | .int _, _, .int i, _ => .int i
  | .str _, _, .str x, _ => .str x
  | .list ds, _, .lst r n h, q => .lst (SqL.of r) (DaAll.dp ds _ h (by simpa [PyData.canLay0] using q))
  | .tuple ds, _, .tup r n h, q => .tup (.inl r) (DaAll.dp ds _ h (by simpa [PyData.canLay0] using q))
  | .tuple ds, _, .tupK w h, q => .tup (.inr w) (DaAll.dp ds _ h (by simpa [PyData.canLay0] using q))
  | .dict [], _, .dct r n, q => by simp [PyData.canLay0] at q
  | .dict _, _, .dctK h, q => by simp [PyData.canLay0] at q
theorem DaAll.dp : ∀ (ds : List D) (vs : List V), DaAll K H A vs ds → PyData.canLayAll0 ds = true → DpAll K H vs ds
  | [], _, .nil, _ => .nil
  | d :: ds, _, .cons h t, q => by
    have q' : d.canLay0 = true ∧ PyData.canLayAll0 ds = true := by simpa [PyData.canLayAll0] using q
    exact .cons (Da.dp d _ h q'.1) (DaAll.dp ds _ t q'.2)
end
end

/-! ### worlds -/
/-- a list that is read alone: frozen, or written in the text -/
def RoL (K : PySem.W.Frag) (H : Hp) (a : Addr) (xs : List V) : Prop :=
  (∃ o, H a = some (.frz o (.lst xs))) ∨
    ∃ (o : Obj) (its : Array Value) (n : Nat), K.lookup a = some o ∧ o.cls = .type "list" ∧ o.dict = none ∧ o.data = .seq its n ∧ its.size ≤ sizeLine ∧ Vals xs its.toList
theorem RoL.sq {K : PySem.W.Frag} {H : Hp} {a : Addr} {xs : List V} (h : RoL K H a xs) : SqL K H a xs := h.imp (fun q => .inr q) id
/-- what is mutable -/
def Live (S : Store) (F : Nat → Addr) (a : Addr) : Prop := ∃ (i : Nat) (ds : List D), S[i]? = some (.lst ds) ∧ F i = a
def CellOk (K : PySem.W.Frag) (H : Hp) (A : Addr → Prop) (a : Addr) : Cell → Prop
  | .lst ds => ∃ vs, H a = some (.lst vs) ∧ DaAll K H A vs ds
  | .ro ds => ∃ vs, RoL K H a vs ∧ DaAll K H A vs ds
  | .gone => True
structure Wok (K : PySem.W.Frag) (H : Hp) (S : Store) (F : Nat → Addr) : Prop where
  cell : ∀ (i : Nat) (c : Cell), S[i]? = some c → CellOk K H (Live S F) (F i) c
  inj : ∀ (i j : Nat) (c e : List D), S[i]? = some (.lst c) → S[j]? = some (.lst e) → F i = F j → i = j
/-- the later world keeps what is not mutable; what is newly mutable was not there -/
structure Wle (H : Hp) (S : Store) (F : Nat → Addr) (H' : Hp) (S' : Store) (F' : Nat → Addr) : Prop where
  keep : ∀ a o, ¬ Live S F a → H a = some o → H' a = some o
  live : ∀ a, Live S' F' a → Live S F a ∨ H a = none
  len : S.length ≤ S'.length
  adr : ∀ i, i < S.length → F' i = F i
section
variable {K : PySem.W.Frag} {H H' H'' : Hp} {S S' S'' : Store} {F F' F'' : Nat → Addr} {v : V} {p : Addr} {o : HO}
theorem Wle.refl : Wle H S F H S F := ⟨fun _ _ _ h => h, fun _ h => .inl h, Nat.le_refl _, fun _ _ => rfl⟩
theorem Wle.trans (a : Wle H S F H' S' F') (b : Wle H' S' F' H'' S'' F'') : Wle H S F H'' S'' F'' := by
  have k1 : ∀ x o, ¬ Live S F x → H x = some o → ¬ Live S' F' x := fun x o n e z => by
    rcases a.live x z with q | q
    · exact n q
    · rw [q] at e; cases e
  refine ⟨fun x o n e => b.keep x o (k1 x o n e) (a.keep x o n e), fun x z => ?_, Nat.le_trans a.len b.len, fun i h => (b.adr i (Nat.lt_of_lt_of_le h a.len)).trans (a.adr i h)⟩
  rcases b.live x z with q | q
  · exact a.live x q
  · by_cases n : Live S F x
    · exact .inl n
    · refine .inr ?_
      cases e : H x with
      | none => rfl
      | some o => rw [a.keep x o n e] at q; cases q
/-- a value -/
def RepR (K : PySem.W.Frag) (H : Hp) (S : Store) (F : Nat → Addr) (v : V) : R → Prop
  | .d x => Da K H (Live S F) v x
  | .ref i => i < S.length ∧ v = .ref (F i)
theorem Da.le (w : Wle H S F H' S' F') {d : D} (h : Da K H (Live S F) v d) : Da K H' (Live S' F') v d := Da.mono w.keep w.live d v h
theorem DaAll.le (w : Wle H S F H' S' F') {vs : List V} {ds : List D} (h : DaAll K H (Live S F) vs ds) : DaAll K H' (Live S' F') vs ds := DaAll.mono w.keep w.live ds vs h
theorem RepR.le (w : Wle H S F H' S' F') {r : R} (h : RepR K H S F v r) : RepR K H' S' F' v r := by
  cases r with
  | d x => exact Da.le w h
  | ref i => exact ⟨Nat.lt_of_lt_of_le h.1 w.len, by rw [w.adr i h.1]; exact h.2⟩
inductive RepAll (K : PySem.W.Frag) (H : Hp) (S : Store) (F : Nat → Addr) : List V → List R → Prop
  | nil : RepAll K H S F [] []
  | cons {v : V} {vs : List V} {r : R} {rs : List R} : RepR K H S F v r → RepAll K H S F vs rs → RepAll K H S F (v :: vs) (r :: rs)
theorem RepAll.le (w : Wle H S F H' S' F') : ∀ {vs : List V} {rs : List R}, RepAll K H S F vs rs → RepAll K H' S' F' vs rs
  | _, _, .nil => .nil
  | _, _, .cons h t => .cons (h.le w) (RepAll.le w t)
theorem RepAll.length : ∀ {vs : List V} {rs : List R}, RepAll K H S F vs rs → vs.length = rs.length
  | _, _, .nil => rfl
  | _, _, .cons _ t => congrArg (· + 1) (RepAll.length t)
theorem RepAll.append : ∀ {vs ws : List V} {rs ts : List R}, RepAll K H S F vs rs → RepAll K H S F ws ts → RepAll K H S F (vs ++ ws) (rs ++ ts)
  | _, _, _, _, .nil, s => s
  | _, _, _, _, .cons r t, s => .cons r (RepAll.append t s)
theorem RepAll.get : ∀ {vs : List V} {rs : List R} {i : Nat} {r : R}, RepAll K H S F vs rs → rs[i]? = some r → ∃ v, vs[i]? = some v ∧ RepR K H S F v r
  | _, _, _, _, .nil, e => by simp at e
  | _, _, 0, _, .cons r _, e => by simp at e; subst e; exact ⟨_, rfl, r⟩
  | _, _, i + 1, d, .cons _ t, e => by
    obtain ⟨u, h1, h2⟩ := RepAll.get (i := i) (r := d) t (by simpa using e)
    exact ⟨u, by simpa using h1, h2⟩
/-- the names' slots -/
structure RepE (K : PySem.W.Frag) (H : Hp) (S : Store) (F : Nat → Addr) (e : Ev) (st : L2.St) : Prop where
  len : e.length = st.length
  at_ : ∀ (i : Nat) (r : R), e[i]? = some (some r) → ∃ v, st[i]? = some (some v) ∧ RepR K H S F v r
theorem RepE.le (w : Wle H S F H' S' F') {e : Ev} {st : L2.St} (h : RepE K H S F e st) : RepE K H' S' F' e st :=
  ⟨h.len, fun i r q => let ⟨v, a, b⟩ := h.at_ i r q; ⟨v, a, b.le w⟩⟩
theorem RepE.set {e : Ev} {st : L2.St} (h : RepE K H S F e st) {r : R} (i : Nat) (q : RepR K H S F v r) : RepE K H S F (e.set i (some r)) (st.set i (some v)) := by
  refine ⟨by rw [List.length_set, List.length_set]; exact h.len, fun j r' hj => ?_⟩
  by_cases e1 : i = j
  · subst e1
    by_cases hi : i < e.length
    · rw [List.getElem?_set_self hi] at hj
      cases hj
      exact ⟨v, List.getElem?_set_self (by rw [← h.len]; exact hi), q⟩
    · rw [List.getElem?_eq_none (by rw [List.length_set]; omega)] at hj; cases hj
  · rw [List.getElem?_set_ne e1] at hj
    rw [List.getElem?_set_ne e1]
    exact h.at_ j r' hj
theorem RepE.unset {e : Ev} {st : L2.St} (h : RepE K H S F e st) (i : Nat) : RepE K H S F (e.set i none) (st.set i none) := by
  refine ⟨by rw [List.length_set, List.length_set]; exact h.len, fun j r' hj => ?_⟩
  by_cases e1 : i = j
  · subst e1
    by_cases hi : i < e.length
    · rw [List.getElem?_set_self hi] at hj; cases hj
    · rw [List.getElem?_eq_none (by rw [List.length_set]; omega)] at hj; cases hj
  · rw [List.getElem?_set_ne e1] at hj
    rw [List.getElem?_set_ne e1]
    exact h.at_ j r' hj
theorem Wok.there (w : Wok K H S F) {a : Addr} (l : Live S F a) : ∃ vs, H a = some (.lst vs) := by
  obtain ⟨i, ds, h, rfl⟩ := l
  obtain ⟨vs, e, _⟩ := w.cell i _ h
  exact ⟨_, e⟩
theorem Wok.notLive (w : Wok K H S F) (n : H p = none) : ¬ Live S F p := fun l => by
  obtain ⟨o, e⟩ := w.there l
  rw [n] at e; cases e
theorem RoL.le (w : Wok K H S F) (l : Wle H S F H' S' F') {xs : List V} (h : RoL K H p xs) : RoL K H' p xs := by
  rcases h with ⟨o, e⟩ | h
  · refine .inl ⟨o, l.keep _ _ (fun z => ?_) e⟩
    obtain ⟨vs, e2⟩ := w.there z
    rw [e] at e2; cases e2
  · exact .inr h
theorem CellOk.le (k : Wok K H S F) (w : Wle H S F H' S' F') {c : Cell} {a : Addr} (h : CellOk K H (Live S F) a c) (e : (∃ ds, c = .lst ds) → ∀ o, H a = some o → H' a = some o) : CellOk K H' (Live S' F') a c := by
  cases c with
  | lst ds => obtain ⟨vs, q, r⟩ := h; exact ⟨vs, e ⟨ds, rfl⟩ _ q, r.le w⟩
  | ro ds => obtain ⟨vs, q, r⟩ := h; exact ⟨vs, q.le k w, r.le w⟩
  | gone => trivial
/-- something new, not mutable -/
theorem Wok.alloc (w : Wok K H S F) (n : H p = none) : Wok K (upd H p o) S F ∧ Wle H S F (upd H p o) S F := by
  have le : Wle H S F (upd H p o) S F := ⟨fun a u _ e => by rw [upd_ne (ne_of_none e n)]; exact e, fun _ h => .inl h, Nat.le_refl _, fun _ _ => rfl⟩
  exact ⟨⟨fun i c h => (w.cell i c h).le w le fun _ u e => by rw [upd_ne (ne_of_none e n)]; exact e, w.inj⟩, le⟩
/-- a new mutable list -/
def addF (F : Nat → Addr) (n : Nat) (p : Addr) : Nat → Addr := fun i => if i = n then p else F i
theorem addF_old {i n : Nat} (h : i < n) : addF F n p i = F i := by unfold addF; rw [if_neg (by omega)]
theorem addF_new {n : Nat} : addF F n p n = p := by unfold addF; rw [if_pos rfl]
theorem lt_of_get {t : Type} {l : List t} {i : Nat} {x : t} (h : l[i]? = some x) : i < l.length := (List.getElem?_eq_some_iff.mp h).1
theorem app_get {c x : Cell} {i : Nat} (h : (S ++ [c])[i]? = some x) : (i < S.length ∧ S[i]? = some x) ∨ (i = S.length ∧ x = c) := by
  by_cases hi : i < S.length
  · rw [List.getElem?_append_left hi] at h; exact .inl ⟨hi, h⟩
  · have hl := lt_of_get h
    rw [List.length_append] at hl
    have ei : i = S.length := by simp at hl; omega
    subst ei
    exact .inr ⟨rfl, by simp at h; exact h.symm⟩
theorem live_add {ds : List D} (a : Addr) : Live (S ++ [.lst ds]) (addF F S.length p) a ↔ Live S F a ∨ a = p := by
  constructor
  · rintro ⟨i, e, h, rfl⟩
    rcases app_get h with ⟨hi, q⟩ | ⟨rfl, _⟩
    · exact .inl ⟨i, e, q, (addF_old hi).symm⟩
    · exact .inr addF_new
  · rintro (⟨i, e, h, rfl⟩ | rfl)
    · have hi := lt_of_get h
      exact ⟨i, e, by rw [List.getElem?_append_left hi]; exact h, addF_old hi⟩
    · exact ⟨S.length, ds, by simp, addF_new⟩
theorem Wok.newCell (w : Wok K H S F) (n : H p = none) {vs : List V} {ds : List D} (r : DaAll K H (Live S F) vs ds) :
    Wok K (upd H p (.lst vs)) (S ++ [.lst ds]) (addF F S.length p) ∧ Wle H S F (upd H p (.lst vs)) (S ++ [.lst ds]) (addF F S.length p) := by
  have le : Wle H S F (upd H p (.lst vs)) (S ++ [.lst ds]) (addF F S.length p) :=
    ⟨fun a u _ e => by rw [upd_ne (ne_of_none e n)]; exact e, fun a h => ((live_add a).mp h).imp id fun z => by rw [z]; exact n, by simp, fun i h => addF_old h⟩
  refine ⟨⟨fun i c h => ?_, fun i j c e hi hj q => ?_⟩, le⟩
  · rcases app_get h with ⟨hi, q⟩ | ⟨rfl, rfl⟩
    · rw [addF_old hi]
      exact (w.cell i c q).le w le fun _ u e => by rw [upd_ne (ne_of_none e n)]; exact e
    · rw [addF_new]
      exact ⟨vs, upd_same, r.le le⟩
  · rcases app_get hi with ⟨hi, a⟩ | ⟨rfl, _⟩ <;> rcases app_get hj with ⟨hj, b⟩ | ⟨rfl, _⟩
    · rw [addF_old hi, addF_old hj] at q
      exact w.inj i j c e a b q
    · rw [addF_old hi, addF_new] at q
      exact absurd ⟨i, c, a, q⟩ (w.notLive n)
    · rw [addF_old hj, addF_new] at q
      exact absurd ⟨j, e, b, q.symm⟩ (w.notLive n)
    · rfl
theorem live_set {i : Nat} {ds es : List D} (h : S[i]? = some (.lst ds)) (a : Addr) : Live (S.set i (.lst es)) F a ↔ Live S F a := by
  have hi := lt_of_get h
  constructor
  · rintro ⟨j, c, q, rfl⟩
    by_cases e : i = j
    · subst e; exact ⟨i, _, h, rfl⟩
    · rw [List.getElem?_set_ne e] at q; exact ⟨j, c, q, rfl⟩
  · rintro ⟨j, c, q, rfl⟩
    by_cases e : i = j
    · subst e; exact ⟨i, _, List.getElem?_set_self hi, rfl⟩
    · exact ⟨j, c, by rw [List.getElem?_set_ne e]; exact q, rfl⟩
/-- a mutable list is changed -/
theorem Wok.setCell (w : Wok K H S F) {i : Nat} {ds es : List D} {ws : List V} (h : S[i]? = some (.lst ds)) (r : DaAll K H (Live S F) ws es) :
    Wok K (upd H (F i) (.lst ws)) (S.set i (.lst es)) F ∧ Wle H S F (upd H (F i) (.lst ws)) (S.set i (.lst es)) F := by
  have li : Live S F (F i) := ⟨i, _, h, rfl⟩
  have hi := lt_of_get h
  have le : Wle H S F (upd H (F i) (.lst ws)) (S.set i (.lst es)) F :=
    ⟨fun a u n e => by rw [upd_ne (fun z => n (by rw [z]; exact li))]; exact e, fun a z => .inl ((live_set h a).mp z), by rw [List.length_set]; exact Nat.le_refl _, fun _ _ => rfl⟩
  refine ⟨⟨fun j c q => ?_, fun j k c e hj hk q => ?_⟩, le⟩
  · by_cases e : i = j
    · subst e
      rw [List.getElem?_set_self hi] at q; cases q
      exact ⟨ws, upd_same, r.le le⟩
    · rw [List.getElem?_set_ne e] at q
      refine (w.cell j _ q).le w le fun ⟨xs, ex⟩ u eu => ?_
      subst ex
      rw [upd_ne (fun z => e (w.inj i j _ _ h q z.symm))]
      exact eu
  · have old : ∀ {k : Nat} {x : List D}, (S.set i (.lst es))[k]? = some (.lst x) → ∃ y, S[k]? = some (.lst y) := fun {k x} q => by
      by_cases e : i = k
      · subst e; exact ⟨_, h⟩
      · rw [List.getElem?_set_ne e] at q; exact ⟨_, q⟩
    obtain ⟨y1, a1⟩ := old hj
    obtain ⟨y2, a2⟩ := old hk
    exact w.inj j k y1 y2 a1 a2 q
/-- a mutable list is given up: it is data from now on -/
theorem Wok.freeze (w : Wok K H S F) {i : Nat} {ds : List D} (h : S[i]? = some (.lst ds)) :
    Wok K H (S.set i .gone) F ∧ Wle H S F H (S.set i .gone) F ∧ Da K H (Live (S.set i .gone) F) (.ref (F i)) (.list ds) := by
  have hi := lt_of_get h
  have old : ∀ {k : Nat} {x : List D}, (S.set i .gone)[k]? = some (.lst x) → S[k]? = some (.lst x) ∧ i ≠ k := fun {k x} q => by
    by_cases e : i = k
    · subst e; rw [List.getElem?_set_self hi] at q; cases q
    · rw [List.getElem?_set_ne e] at q; exact ⟨q, e⟩
  have sub : ∀ a, Live (S.set i .gone) F a → Live S F a ∧ a ≠ F i := by
    rintro a ⟨j, c, q, rfl⟩
    obtain ⟨q, e⟩ := old q
    exact ⟨⟨j, c, q, rfl⟩, fun z => e (w.inj i j _ _ h q z.symm)⟩
  have le : Wle H S F H (S.set i .gone) F := ⟨fun a u n e => e, fun a z => .inl (sub a z).1, by rw [List.length_set]; exact Nat.le_refl _, fun _ _ => rfl⟩
  obtain ⟨vs, e1, r⟩ := w.cell i _ h
  refine ⟨⟨fun j c q => ?_, fun j k c e hj hk q => w.inj j k c e (old hj).1 (old hk).1 q⟩, le, ?_⟩
  · by_cases e : i = j
    · subst e; rw [List.getElem?_set_self hi] at q; cases q; trivial
    · rw [List.getElem?_set_ne e] at q
      exact (w.cell j _ q).le w le fun _ u eu => eu
  · exact .lst e1 (fun z => (sub _ z).2 rfl) (r.le le)
/-- what a call made and does not hand back is forgotten -/
theorem Wok.trunc (w : Wok K H S F) (n : Nat) : Wok K H (S.take n) F ∧ (∀ a, Live (S.take n) F a → Live S F a) := by
  have sub : ∀ {i : Nat} {c : Cell}, (S.take n)[i]? = some c → S[i]? = some c := fun {i c} h => by
    by_cases hi : i < n
    · rw [List.getElem?_take_of_lt hi] at h; exact h
    · rw [List.getElem?_eq_none (by rw [List.length_take]; omega)] at h; cases h
  have lsub : ∀ a, Live (S.take n) F a → Live S F a := fun a ⟨i, c, h, e⟩ => ⟨i, c, sub h, e⟩
  refine ⟨⟨fun i c h => ?_, fun i j c e hi hj q => w.inj i j c e (sub hi) (sub hj) q⟩, lsub⟩
  have q := w.cell i c (sub h)
  have mono : ∀ {vs : List V} {ds : List D}, DaAll K H (Live S F) vs ds → DaAll K H (Live (S.take n) F) vs ds := fun {vs ds} r => DaAll.mono (fun _ _ _ e => e) (fun a z => .inl (lsub a z)) ds vs r
  cases c with
  | gone => trivial
  | lst ds => obtain ⟨vs, e, r⟩ := q; exact ⟨vs, e, mono r⟩
  | ro ds => obtain ⟨vs, e, r⟩ := q; exact ⟨vs, e, mono r⟩
theorem Wle.trunc {n : Nat} (w : Wle H S F H' S' F') (hn : S.length ≤ n) : Wle H S F H' (S'.take n) F' := by
  refine ⟨w.keep, fun a ⟨i, c, h, e⟩ => w.live a ⟨i, c, ?_, e⟩, by rw [List.length_take]; have := w.len; omega, w.adr⟩
  by_cases hi : i < n
  · rw [List.getElem?_take_of_lt hi] at h; exact h
  · rw [List.getElem?_eq_none (by rw [List.length_take]; omega)] at h; cases h
end
end Sx
set_option Elab.async false
set_option linter.all false
/-! Sx, part B: the pure reading. -/
namespace Sx
open PySem PySem.Spec PyProof.Rows

structure Exc where
  cls : String
  fs : List (String × D)
inductive Out (t : Type) where
  | ok (a : t) (S : Store)
  | exc (x : Exc) (S : Store)
  | bad
def Out.bind {t u : Type} (o : Out t) (f : t → Store → Out u) : Out u :=
  match o with
  | .ok a S => f a S
  | .exc x S => .exc x S
  | .bad => .bad
@[simp] theorem Out.bind_ok {t u : Type} (a : t) (S : Store) (f : t → Store → Out u) : (Out.ok a S).bind f = f a S := rfl
@[simp] theorem Out.bind_exc {t u : Type} (x : Exc) (S : Store) (f : t → Store → Out u) : (Out.exc x S : Out t).bind f = .exc x S := rfl
@[simp] theorem Out.bind_bad {t u : Type} (f : t → Store → Out u) : (Out.bad : Out t).bind f = .bad := rfl
def lift {t : Type} (o : Option t) (S : Store) : Out t :=
  match o with
  | some a => .ok a S
  | none => .bad
@[simp] theorem lift_some {t : Type} (a : t) (S : Store) : lift (some a) S = .ok a S := rfl
@[simp] theorem lift_none {t : Type} (S : Store) : lift (none : Option t) S = .bad := rfl

inductive Bop where
  | add | sub | mul | fdiv | mod | pow | shl
  deriving DecidableEq
inductive Cop where
  | eq | ne | lt | le | gt | ge | isx | isn | inx | nin
  deriving DecidableEq
inductive Ty where
  | int | bool | str | tuple | list | dict
  deriving DecidableEq
inductive Bi where
  | len | abs | max | min | int | divmod | all | any | tuple | list | repr | gcd | sum
  deriving DecidableEq
/-- a call with keywords: how many positional values, the keywords' names, the values of defaults, where each parameter's value comes from -/
structure KE where
  f : String
  n : Nat
  kns : List String
  dv : List Int
  pm : List Nat
  deriving DecidableEq
mutual
inductive CE where
  | i (n : Int) | s (x : String) | b (x : Bool) | non
  | v (i : Nat)
  | g (x : String)
  | tup (es : List CE) | lst (es : List CE) | edict
  | new (e : CE)
  | bop (op : Bop) (a b : CE) | neg (a : CE)
  | and (cs : List CE) | or (cs : List CE) | not (a : CE)
  | cmp (op : Cop) (a b : CE)
  | chain (op op2 : Cop) (a b c : CE)
  | ite (c a b : CE)
  | call (f : String) (as : List CE)
  | callk (q : KE) (as : List CE) (ks : List CE)
  | bi (f : Bi) (as : List CE)
  | isi (a : CE) (t : Ty)
  | ix (a b : CE)
  | sl (a lo hi : CE)
  | nob
  | rev (a : CE)
  | lc (elt : CE) (t : Tg) (it : CE) (ifs : List CE) (own : List Nat)
  | rng (as : List CE)
  | zip (as : List CE)
  | enum (a : CE)
  | app (a e : CE)
  | ss (a : CE)
  | pop (a : CE)
  | popi (a b : CE)
inductive Tg where
  | v (i : Nat)
  | t (ts : List Tg)
  | ix (a b : CE)
end
inductive CS where
  | asg (t : Tg) (e : CE)
  | par (is : List Nat) (es : List CE)
  | ex (e : CE)
  | ret (e : CE)
  | ret0
  | ite (c : CE) (a b : List CS)
  | for_ (t : Tg) (it : CE) (body : List CS)
  | while_ (c : CE) (body : List CS)
  | pass | brk | cnt
  | never
  | fz (i : Nat)
inductive Fl where
  | nx | rt (r : R) | bk | ct

/-! ### values -/
def asD (r : R) (S : Store) : Option D :=
  match r with
  | .d x => some x
  | .ref i => match S[i]? with
    | some (.lst ds) => some (.list ds)
    | some (.ro ds) => some (.list ds)
    | _ => none
/-- .. that may be joined -/
def asW (r : R) (S : Store) : Option D :=
  match r with
  | .d x => some x
  | .ref i => match S[i]? with
    | some (.lst ds) => some (.list ds)
    | _ => none
@[simp] theorem asW_d (x : D) (S : Store) : asW (.d x) S = some x := rfl
@[simp] theorem asD_d (x : D) (S : Store) : asD (.d x) S = some x := rfl
def strFits (x : Str) : Bool := decide (x.length ≤ sizeLine)
def truD : D → Option Bool
  | .none => some false
  | .bool b => some b
  | .int i => some (i != 0)
  | .str x => if strFits x then some ((x.length : Int) != 0) else none
  | .list ds => some (!ds.isEmpty)
  | .tuple ds => some (!ds.isEmpty)
  | .dict [] => some false
  | .dict _ => none
def tru (r : R) (S : Store) : Option Bool := (asD r S).bind truD
def asB (r : R) : Option Bool :=
  match r with
  | .d (.bool b) => some b
  | _ => none
def mulOk (i j : Int) : Bool := decide (i.natAbs.log2 + j.natAbs.log2 < 1000000)
def divOk (j : Int) : Bool := decide (j ≠ 0) && decide (j.natAbs.log2 < 9000)
def powOk (i j : Int) : Bool := decide (0 ≤ j) && decide (j ≤ 1000000) && decide (i.natAbs < 2 ^ 64)
def lenFits (n : Nat) : Bool := decide (n ≤ sizeLine)
def opB : Bop → D → D → Option D
  | .add, .int i, .int j => some (.int (i + j))
  | .add, .str x, .str y => if decide (x.length + y.length ≤ sizeLine) then some (.str (x ++ y)) else none
  | .add, .tuple xs, .tuple ys => if lenFits (xs.length + ys.length) then some (.tuple (xs ++ ys)) else none
  | .add, .list xs, .list ys => if lenFits (xs.length + ys.length) then some (.list (xs ++ ys)) else none
  | .sub, .int i, .int j => some (.int (i - j))
  | .mul, .int i, .int j => if mulOk i j then some (.int (i * j)) else none
  | .mul, .tuple xs, .int k => if decide (-1000 ≤ k) && decide (k ≤ 1000) && decide (xs.length ≤ 1000) then some (.tuple (List.replicate k.toNat xs).flatten) else none
  | .mul, .list xs, .int k => if decide (-(2 ^ 63) ≤ k) && decide (k < 2 ^ 63) && lenFits (xs.length * k.toNat) then some (.list (List.replicate k.toNat xs).flatten) else none
  | .fdiv, .int i, .int j => if divOk j then some (.int (i.fdiv j)) else none
  | .mod, .int i, .int j => if j = 0 then none else some (.int (i.fmod j))
  | .pow, .int i, .int j => if powOk i j then some (.int (i ^ j.toNat)) else none
  | .shl, .int i, .int j => if powOk i j then some (.int (i * 2 ^ j.toNat)) else none
  | _, _, _ => none
/-- leaves that == tells apart by kind and value -/
def leafEq : D → D → Option Bool
  | .none, .none => some true
  | .none, .int _ | .int _, .none | .none, .bool _ | .bool _, .none | .none, .str _ | .str _, .none => some false
  | .int i, .int j => some (i == j)
  | .bool i, .bool j => some (i == j)
  | .str x, .str y => some (x == y)
  | .int _, .str _ | .str _, .int _ | .bool _, .str _ | .str _, .bool _ => some false
  | _, _ => none
/-- tuples within which dicts lie -/
def eqT : D → D → Option Bool
  | .tuple xs, .tuple [] => some xs.isEmpty
  | .tuple [.dict []], .tuple [.str _] => some false
  | _, _ => none
def eqD (x y : D) : Option Bool :=
  match leafEq x y with
  | some b => some b
  | none => if SeqAt.shaped x && SeqAt.shaped y then some (PyData.eqv x y) else eqT x y
/-- what a dict has at a text -/
def dget : List (D × D) → Str → Option D
  | [], _ => none
  | (.str k, d) :: r, z => if z == k then some d else dget r z
  | _ :: r, z => dget r z
def flatD : D → Bool
  | .none | .bool _ | .int _ | .str _ => true
  | _ => false
def eqF : D → D → Bool
  | .none, .none => true
  | .bool a, .bool b => a == b
  | .bool a, .int b => (if a then 1 else 0) == b
  | .int a, .bool b => a == (if b then 1 else 0)
  | .int a, .int b => a == b
  | .str a, .str b => a == b
  | _, _ => false
def inSeq (x : D) (ds : List D) : Option Bool := if flatD x && ds.all flatD then some (ds.any fun d => eqF d x) else none
def inD : D → D → Option Bool
  | x, .tuple ds => inSeq x ds
  | x, .list ds => match inSeq x ds with
    | some b => some b
    | none => if SeqAt.shaped x && SeqAt.shaped (.list ds) then some (ds.any fun z => PyData.eqv z x) else none
  | .str z, .dict kvs => some (dget kvs z).isSome
  | .str x, .str z => match x.cps.toList with
    | [c] => some (decide (c ∈ z.cps.toList))
    | _ => none
  | _, _ => none
def cmpD : Cop → D → D → Option Bool
  | .inx, x, .dict [] => none
  | .nin, x, .dict [] => none
  | .inx, x, y => inD x y
  | .nin, x, y => (inD x y).map (!·)
  | .eq, x, y => eqD x y
  | .ne, x, y => (eqD x y).map (!·)
  | .lt, .int i, .int j => some (decide (i < j))
  | .le, .int i, .int j => some (decide (i ≤ j))
  | .gt, .int i, .int j => some (decide (j < i))
  | .ge, .int i, .int j => some (decide (j ≤ i))
  | .isx, .bool a, .bool b => some (decide (a = b))
  | .isn, .bool a, .bool b => some (!decide (a = b))
  | .isx, .none, .none => some true
  | .isn, .none, .none => some false
  | .isx, .int _, .none | .isx, .bool _, .none | .isx, .str _, .none | .isx, .list _, .none | .isx, .tuple _, .none => some false
  | .isn, .int _, .none | .isn, .bool _, .none | .isn, .str _, .none | .isn, .list _, .none | .isn, .tuple _, .none => some true
  | _, _, _ => none
def tyOf : D → Ty → Bool
  | .int _, .int => true
  | .bool _, .int => true
  | .bool _, .bool => true
  | .str _, .str => true
  | .tuple _, .tuple => true
  | .list _, .list => true
  | .dict _, .dict => true
  | _, _ => false
def ixD : D → D → Option D
  | .tuple xs, .int i => L2.atI xs i
  | .list xs, .int i => L2.atI xs i
  | .dict kvs, .str z => dget kvs z
  | .str z, .int i => if strFits z then (L2.atI z.cps.toList i).map fun c => .str ⟨#[c]⟩ else none
  | _, _ => none
def intR : R → Option Int
  | .d (.int i) => some i
  | _ => none
def cutD (xs : List D) (lo hi : Option Int) : List D := (xs.drop (HT.sIx xs.length 0 lo)).take (HT.sIx xs.length xs.length hi - HT.sIx xs.length 0 lo)
def slD : D → Option Int → Option Int → Option D
  | .tuple xs, lo, hi => some (.tuple (cutD xs lo hi))
  | .list xs, lo, hi => some (.list (cutD xs lo hi))
  | _, _, _ => none
def revD : D → Option D
  | .tuple xs => some (.tuple xs.reverse)
  | .list xs => some (.list xs.reverse)
  | _ => none
def bools : List D → Option (List Bool)
  | [] => some []
  | .bool b :: r => (bools r).map (b :: ·)
  | _ :: _ => none
def intsD : List D → Option (List Int)
  | [] => some []
  | .int b :: r => (intsD r).map (b :: ·)
  | _ :: _ => none
def bLen : List D → Option D
  | [.list xs] => some (.int xs.length)
  | [.tuple xs] => some (.int xs.length)
  | [.str x] => if strFits x then some (.int x.length) else none
  | _ => none
def bAbs : List D → Option D
  | [.int i] => some (.int (if i < 0 then -i else i))
  | _ => none
def bMax : List D → Option D
  | [.int i, .int j] => some (.int (if j > i then j else i))
  | _ => none
def bMin : List D → Option D
  | [.int i, .int j] => some (.int (if j < i then j else i))
  | _ => none
def bInt : List D → Option D
  | [.int i] => some (.int i)
  | [.bool b] => some (.int (if b then 1 else 0))
  | _ => none
def bDivmod : List D → Option D
  | [.int i, .int j] => if decide (0 < j) && decide (j.natAbs.log2 < 9000) then some (.tuple [.int (i / j), .int (i % j)]) else none
  | _ => none
def bAll : List D → Option D
  | [.list xs] => (bools xs).map fun bs => .bool (bs.all id)
  | _ => none
def bAny : List D → Option D
  | [.list xs] => (bools xs).map fun bs => .bool (bs.any id)
  | _ => none
def bTuple : List D → Option D
  | [.list xs] => some (.tuple xs)
  | [.tuple xs] => some (.tuple xs)
  | _ => none
def bList : List D → Option D
  | [.list xs] => some (.list xs)
  | [.tuple xs] => some (.list xs)
  | _ => none
def reprOk (x : D) : Bool := x.showable && x.canLay0 && decide (x.depth ≤ 64) && decide (x.shown.length ≤ sizeLine)
def bRepr : List D → Option D
  | [x] => if reprOk x then some (.str x.shown) else none
  | _ => none
def bGcd : List D → Option D
  | [.int a, .int b] => some (.int ((Nat.gcd a.natAbs b.natAbs : Nat) : Int))
  | _ => none
def bSum : List D → Option D
  | [.list xs] => (intsD xs).map fun ns => .int ns.sum
  | _ => none
def biD : Bi → List D → Option D
  | .len => bLen | .abs => bAbs | .max => bMax | .min => bMin | .int => bInt | .divmod => bDivmod | .all => bAll | .any => bAny
  | .tuple => bTuple | .list => bList | .repr => bRepr | .gcd => bGcd | .sum => bSum
def asDs (S : Store) : List R → Option (List D)
  | [] => some []
  | r :: rs => (asD r S).bind fun x => (asDs S rs).map (x :: ·)
@[simp] theorem asDs_nil (S : Store) : asDs S [] = some [] := rfl
@[simp] theorem asDs_cons (S : Store) (r : R) (rs : List R) : asDs S (r :: rs) = (asD r S).bind fun x => (asDs S rs).map (x :: ·) := rfl
def pureDs : List R → Option (List D)
  | [] => some []
  | .d x :: rs => (pureDs rs).map (x :: ·)
  | .ref _ :: _ => none
@[simp] theorem pureDs_nil : pureDs [] = some [] := rfl
@[simp] theorem pureDs_d (x : D) (rs : List R) : pureDs (.d x :: rs) = (pureDs rs).map (x :: ·) := rfl
def KE.pick (q : KE) (rs qs : List R) : List R := q.pm.map fun i => (rs ++ qs ++ q.dv.map fun n => R.d (.int n)).getD i (.d .none)
def pureD : R → Option D
  | .d x => some x
  | .ref _ => none
@[simp] theorem pureD_d (x : D) : pureD (.d x) = some x := rfl
/-- what a for, a comprehension walks -/
def itemsD : D → Option (List D)
  | .list xs => some xs
  | .tuple xs => some xs
  | .str x => if strFits x then some (x.cps.toList.map fun c => .str ⟨#[c]⟩) else none
  | _ => none
def rngOk (i : Int) : Bool := decide (-(2 ^ 62) ≤ i) && decide (i < 2 ^ 62)
def rngD : List D → Option (List D)
  | [.int j] => if rngOk j then some ((List.range j.toNat).map fun (k : Nat) => .int k) else none
  | [.int i, .int j] => if rngOk i && rngOk j then some ((List.range (j - i).toNat).map fun (k : Nat) => .int (i + k)) else none
  | _ => none
/-- list(range(..)) -/
def rngL (ds : List D) : Option D := (rngD ds).bind fun xs => if decide (xs.length ≤ 100000) then some (.list xs) else none
/-- tuples of ints, in their order -/
def lexLt : List Int → List Int → Bool
  | a :: as, b :: bs => if a = b then lexLt as bs else decide (a < b)
  | [], _ :: _ => true
  | _, [] => false
def insL (x : List Int) : List (List Int) → List (List Int)
  | [] => [x]
  | y :: ys => if x = y then y :: ys else if lexLt x y then x :: y :: ys else y :: insL x ys
def ssetL : List (List Int) → List (List Int)
  | [] => []
  | x :: xs => insL x (ssetL xs)
def tupI : D → Option (List Int)
  | .tuple ds => intsD ds
  | _ => none
def tupIs : List D → Option (List (List Int))
  | [] => some []
  | d :: ds => (tupI d).bind fun x => (tupIs ds).map (x :: ·)
def sameLen : List (List Int) → Bool
  | [] => true
  | x :: xs => decide (1 ≤ x.length) && xs.all fun y => decide (y.length = x.length)
/-- sorted(set(..)) of a list of tuples of ints -/
def ssD : List D → Option D
  | [.list ds] => (tupIs ds).bind fun ns => if sameLen ns && decide ((ssetL ns).length < 62) then some (.list ((ssetL ns).map fun n => .tuple (n.map .int))) else none
  | _ => none
def zip2 : List D → List D → List D
  | x :: xs, y :: ys => .tuple [x, y] :: zip2 xs ys
  | _, _ => []
def zip3 : List D → List D → List D → List D
  | x :: xs, y :: ys, z :: zs => .tuple [x, y, z] :: zip3 xs ys zs
  | _, _, _ => []
def zipD : List D → Option (List D)
  | [a, b] => (itemsD a).bind fun x => (itemsD b).map fun y => zip2 x y
  | [a, b, c] => (itemsD a).bind fun x => (itemsD b).bind fun y => (itemsD c).map fun z => zip3 x y z
  | _ => none
def enumFrom : Nat → List D → List D
  | _, [] => []
  | n, x :: xs => .tuple [.int n, x] :: enumFrom (n + 1) xs
def enumD (a : D) : Option (List D) := (itemsD a).map (enumFrom 0)
def wipeE (e : Ev) : List Nat → Ev
  | [] => e
  | v :: vs => (wipeE e vs).set v none

abbrev Fns := String → List R → Store → Out R

/-- a for over items -/
def forD (step : D → Ev → Store → Out (Fl × Ev)) : List D → Ev → Store → Out (Fl × Ev)
  | [], e, S => .ok (.nx, e) S
  | x :: xs, e, S => (step x e S).bind fun p S1 =>
    match p.1 with
    | .nx => forD step xs p.2 S1
    | .ct => forD step xs p.2 S1
    | .bk => .ok (.nx, p.2) S1
    | .rt r => .ok (.rt r, p.2) S1
/-- what must not raise -/
def calm {t : Type} (o : Out t) : Out t :=
  match o with
  | .ok a S => .ok a S
  | .exc _ _ => .bad
  | .bad => .bad
@[simp] theorem calm_ok {t : Type} (a : t) (S : Store) : calm (.ok a S) = .ok a S := rfl
/-- a comprehension over items: the new list stands at n -/
def lcD (n : Nat) (step : D → Store → Out (Option D)) : List D → Store → Out Unit
  | [], S => .ok () S
  | x :: xs, S => (calm (step x S)).bind fun o S1 =>
    match o with
    | none => lcD n step xs S1
    | some y => match S1[n]? with
      | some (.lst acc) => if decide (acc.length < sizeLine) then lcD n step xs (S1.set n (.lst (acc ++ [y]))) else .bad
      | _ => .bad
def lcEnd (n : Nat) (S : Store) : Out R :=
  match S[n]? with
  | some (.lst ys) => .ok (.d (.list ys)) (S.take n)
  | _ => .bad
/-- a while: n turns at most -/
def whN (c : Ev → Store → Out Bool) (b : Ev → Store → Out (Fl × Ev)) : Nat → Ev → Store → Option (Out (Fl × Ev))
  | 0, _, _ => none
  | n + 1, e, S =>
    match c e S with
    | .bad => some .bad
    | .exc x S1 => some (.exc x S1)
    | .ok false S1 => some (.ok (.nx, e) S1)
    | .ok true S1 =>
      match b e S1 with
      | .bad => some .bad
      | .exc x S2 => some (.exc x S2)
      | .ok (.nx, e2) S2 => whN c b n e2 S2
      | .ok (.ct, e2) S2 => whN c b n e2 S2
      | .ok (.bk, e2) S2 => some (.ok (.nx, e2) S2)
      | .ok (.rt r, e2) S2 => some (.ok (.rt r, e2) S2)
open Classical in
noncomputable def whD (c : Ev → Store → Out Bool) (b : Ev → Store → Out (Fl × Ev)) (e : Ev) (S : Store) : Out (Fl × Ev) :=
  if h : ∃ n, (whN c b n e S).isSome = true then (whN c b h.choose e S).getD .bad else .bad

section
variable (C : Fns) (G : String → Option D)
def getV (e : Ev) (i : Nat) (S : Store) : Out R :=
  match e[i]? with
  | some (some r) => .ok r S
  | _ => .bad
def newD (r : R) (S : Store) : Out R :=
  match r with
  | .d (.list ds) => .ok (.ref S.length) (S ++ [.lst ds])
  | _ => .bad
def cellOf (o : R) (S : Store) : Option (List D) :=
  match o with
  | .ref i => match S[i]? with
    | some (.lst ds) => some ds
    | _ => none
  | _ => none
def appD (o x : R) (S : Store) : Out R :=
  match o, x with
  | .ref i, .d y => match S[i]? with
    | some (.lst ds) => if decide (ds.length < sizeLine) then .ok (.d .none) (S.set i (.lst (ds ++ [y]))) else .bad
    | _ => .bad
  | _, _ => .bad
def popD (o : R) (S : Store) : Out R :=
  match o with
  | .ref i => match S[i]? with
    | some (.lst ds) => match ds[ds.length - 1]? with
      | some y => .ok (.d y) (S.set i (.lst ds.dropLast))
      | none => .bad
    | _ => .bad
  | _ => .bad
def popiD (o k : R) (S : Store) : Out R :=
  match o, k with
  | .ref i, .d (.int j) => match S[i]? with
    | some (.lst ds) => if decide (-(2 ^ 62) ≤ j) && decide (j < 2 ^ 62) then
        match seqIndex? j ds.length with
        | some n => match ds[n]? with
          | some y => .ok (.d y) (S.set i (.lst (ds.eraseIdx n)))
          | none => .bad
        | none => .bad
      else .bad
    | _ => .bad
  | _, _ => .bad
def setD (o k x : R) (S : Store) : Out Unit :=
  match o, k, x with
  | .ref i, .d (.int j), .d y => match S[i]? with
    | some (.lst ds) => match L2.ixN ds.length j with
      | some n => .ok () (S.set i (.lst (ds.set n y)))
      | none => .bad
    | _ => .bad
  | _, _, _ => .bad
mutual
noncomputable def dE : CE → Ev → Store → Out R
  | .i n, _, S => .ok (.d (.int n)) S
  | .s x, _, S => .ok (.d (.str (Str.ofString x))) S
  | .b x, _, S => .ok (.d (.bool x)) S
  | .non, _, S => .ok (.d .none) S
  | .v i, e, S => getV e i S
  | .g x, _, S => match G x with
    | some y => .ok (.d y) S
    | none => .bad
  | .tup es, e, S => (dL es e S).bind fun rs S1 => lift ((pureDs rs).bind fun ds => if lenFits ds.length then some (.d (.tuple ds)) else none) S1
  | .lst es, e, S => (dL es e S).bind fun rs S1 => lift ((pureDs rs).bind fun ds => if lenFits ds.length then some (.d (.list ds)) else none) S1
  | .edict, _, S => .ok (.d (.dict [])) S
  | .new a, e, S => (dE a e S).bind newD
  | .bop op a b, e, S => (dE a e S).bind fun x S1 => (dE b e S1).bind fun y S2 => lift ((asW x S2).bind fun p => (asW y S2).bind fun q => (opB op p q).map R.d) S2
  | .neg a, e, S => (dE a e S).bind fun x S1 => match x with
    | .d (.int i) => .ok (.d (.int (-i))) S1
    | _ => .bad
  | .and cs, e, S => dAnd cs e S
  | .or cs, e, S => dOr cs e S
  | .not a, e, S => (dE a e S).bind fun x S1 => lift ((tru x S1).map fun b => .d (.bool (!b))) S1
  | .cmp op a b, e, S => (dE a e S).bind fun x S1 => (dE b e S1).bind fun y S2 => lift ((asD x S2).bind fun p => (asD y S2).bind fun q => (cmpD op p q).map fun b => .d (.bool b)) S2
  | .chain op op2 a b c, e, S => (dE a e S).bind fun x S1 => (dE b e S1).bind fun y S2 =>
      (lift ((asD x S2).bind fun p => (asD y S2).bind fun q => cmpD op p q) S2).bind fun k S3 =>
        if k then (dE c e S3).bind fun z S4 => lift ((asD y S4).bind fun p => (asD z S4).bind fun q => (cmpD op2 p q).map fun b => .d (.bool b)) S4
        else .ok (.d (.bool false)) S3
  | .ite c a b, e, S => (dT c e S).bind fun k S1 => if k then dE a e S1 else dE b e S1
  | .call f as, e, S => (dL as e S).bind fun rs S1 => C f rs S1
  | .callk q as ks, e, S => (dL as e S).bind fun rs S1 => (dL ks e S1).bind fun qs S2 => C q.f (q.pick rs qs) S2
  | .bi f as, e, S => (dL as e S).bind fun rs S1 => lift ((asDs S1 rs).bind fun ds => (biD f ds).map R.d) S1
  | .isi a t, e, S => (dE a e S).bind fun x S1 => lift ((asD x S1).map fun p => .d (.bool (tyOf p t))) S1
  | .ix a b, e, S => (dE a e S).bind fun x S1 => (dE b e S1).bind fun y S2 => lift ((asD x S2).bind fun p => (asD y S2).bind fun q => (ixD p q).map R.d) S2
  | .sl a lo hi, e, S => (dE a e S).bind fun x S1 => (dO lo e S1).bind fun l S2 => (dO hi e S2).bind fun h S3 => lift ((asD x S3).bind fun p => (slD p l h).map R.d) S3
  | .nob, _, S => .ok (.d .none) S
  | .rev a, e, S => (dE a e S).bind fun x S1 => lift ((asD x S1).bind fun p => (revD p).map R.d) S1
  | .lc elt t it ifs own, e, S => (dI it e S).bind fun xs S1 =>
      (lcD S1.length (fun x S2 => (dA t (.d x) (wipeE e own) S2).bind fun e2 S3 => (dIfs ifs e2 S3).bind fun k S4 =>
        if k then (dE elt e2 S4).bind fun y S5 => lift ((pureD y).map some) S5 else .ok none S4) xs (S1 ++ [.lst []])).bind fun _ S6 => lcEnd S1.length S6
  | .rng as, e, S => (dL as e S).bind fun rs S1 => lift ((asDs S1 rs).bind fun ds => (rngL ds).map R.d) S1
  | .zip _, _, _ => .bad
  | .enum _, _, _ => .bad
  | .ss a, e, S => (dE a e S).bind fun x S1 => lift ((asDs S1 [x]).bind fun ds => (ssD ds).map R.d) S1
  | .app a b, e, S => (dE a e S).bind fun x S1 => (lift (cellOf x S1) S1).bind fun _ S2 => (dE b e S2).bind fun y S3 => appD x y S3
  | .pop a, e, S => (dE a e S).bind popD
  | .popi a b, e, S => (dE a e S).bind fun x S1 => (lift (cellOf x S1) S1).bind fun _ S2 => (dE b e S2).bind fun y S3 => popiD x y S3
/-- a slice's bound -/
noncomputable def dO : CE → Ev → Store → Out (Option Int)
  | .nob, _, S => .ok none S
  | .i n, _, S => .ok (some n) S
  | .v i, e, S => (getV e i S).bind fun x S1 => lift ((intR x).map some) S1
  | .neg a, e, S => (dE a e S).bind fun x S1 => lift ((intR x).map fun n => some (-n)) S1
  | .bop op a b, e, S => (dE a e S).bind fun x S1 => (dE b e S1).bind fun y S2 => lift ((asW x S2).bind fun p => (asW y S2).bind fun q => (opB op p q).bind fun z => (intR (.d z)).map some) S2
  | .ix a b, e, S => (dE a e S).bind fun x S1 => (dE b e S1).bind fun y S2 => lift ((asD x S2).bind fun p => (asD y S2).bind fun q => (ixD p q).bind fun z => (intR (.d z)).map some) S2
  | .call f as, e, S => (dL as e S).bind fun rs S1 => (C f rs S1).bind fun x S2 => lift ((intR x).map some) S2
  | _, _, _ => .bad
noncomputable def dL : List CE → Ev → Store → Out (List R)
  | [], _, S => .ok [] S
  | a :: as, e, S => (dE a e S).bind fun x S1 => (dL as e S1).bind fun xs S2 => .ok (x :: xs) S2
noncomputable def dAnd : List CE → Ev → Store → Out R
  | [], _, _ => .bad
  | [a], e, S => dE a e S
  | a :: as, e, S => (dE a e S).bind fun x S1 => (lift (tru x S1) S1).bind fun k S2 => if k then dAnd as e S2 else .ok x S2
noncomputable def dOr : List CE → Ev → Store → Out R
  | [], _, _ => .bad
  | [a], e, S => dE a e S
  | a :: as, e, S => (dE a e S).bind fun x S1 => (lift (tru x S1) S1).bind fun k S2 => if k then .ok x S2 else dOr as e S2
/-- a test -/
noncomputable def dT : CE → Ev → Store → Out Bool
  | .and cs, e, S => dAndT cs e S
  | .or cs, e, S => dOrT cs e S
  | .not a, e, S => (dT a e S).bind fun k S1 => .ok (!k) S1
  | .ite c a b, e, S => (dT c e S).bind fun k S1 => if k then dT a e S1 else dT b e S1
  | .i n, _, S => .ok (n != 0) S
  | .s x, _, S => lift (truD (.str (Str.ofString x))) S
  | .b x, _, S => .ok x S
  | .non, _, S => .ok false S
  | .v i, e, S => (getV e i S).bind fun x S1 => lift (tru x S1) S1
  | .cmp op a b, e, S => (dE a e S).bind fun x S1 => (dE b e S1).bind fun y S2 => lift ((asD x S2).bind fun p => (asD y S2).bind fun q => cmpD op p q) S2
  | .chain op op2 a b c, e, S => (dE a e S).bind fun x S1 => (dE b e S1).bind fun y S2 =>
      (lift ((asD x S2).bind fun p => (asD y S2).bind fun q => cmpD op p q) S2).bind fun k S3 =>
        if k then (dE c e S3).bind fun z S4 => lift ((asD y S4).bind fun p => (asD z S4).bind fun q => cmpD op2 p q) S4
        else .ok false S3
  | .call f as, e, S => (dL as e S).bind fun rs S1 => (C f rs S1).bind fun x S2 => lift (tru x S2) S2
  | .callk q as ks, e, S => (dL as e S).bind fun rs S1 => (dL ks e S1).bind fun qs S2 => (C q.f (q.pick rs qs) S2).bind fun x S3 => lift (tru x S3) S3
  | .bi f as, e, S => (dL as e S).bind fun rs S1 => lift ((asDs S1 rs).bind fun ds => (biD f ds).bind truD) S1
  | .isi a t, e, S => (dE a e S).bind fun x S1 => lift ((asD x S1).map fun p => tyOf p t) S1
  | .ix a b, e, S => (dE a e S).bind fun x S1 => (dE b e S1).bind fun y S2 => lift ((asD x S2).bind fun p => (asD y S2).bind fun q => (ixD p q).bind truD) S2
  | _, _, _ => .bad
noncomputable def dAndT : List CE → Ev → Store → Out Bool
  | [], _, _ => .bad
  | [a], e, S => dT a e S
  | a :: as, e, S => (dT a e S).bind fun k S1 => if k then dAndT as e S1 else .ok false S1
noncomputable def dOrT : List CE → Ev → Store → Out Bool
  | [], _, _ => .bad
  | [a], e, S => dT a e S
  | a :: as, e, S => (dT a e S).bind fun k S1 => if k then .ok true S1 else dOrT as e S1
noncomputable def dIfs : List CE → Ev → Store → Out Bool
  | [], _, S => .ok true S
  | [a], e, S => dT a e S
  | _ :: _, _, _ => .bad
/-- what is walked -/
noncomputable def dI : CE → Ev → Store → Out (List D)
  | .rng as, e, S => (dL as e S).bind fun rs S1 => lift ((asDs S1 rs).bind rngD) S1
  | .zip as, e, S => (dL as e S).bind fun rs S1 => lift ((pureDs rs).bind zipD) S1
  | .enum a, e, S => (dE a e S).bind fun x S1 => lift ((pureD x).bind enumD) S1
  | .v i, e, S => (getV e i S).bind fun x S1 => lift ((pureD x).bind itemsD) S1
  | .g x, _, S => lift ((G x).bind itemsD) S
  | .tup es, e, S => (dL es e S).bind fun rs S1 => lift ((pureDs rs).bind fun ds => if lenFits ds.length then some ds else none) S1
  | .lst es, e, S => (dL es e S).bind fun rs S1 => lift ((pureDs rs).bind fun ds => if lenFits ds.length then some ds else none) S1
  | .ix a b, e, S => (dE a e S).bind fun x S1 => (dE b e S1).bind fun y S2 => lift ((asD x S2).bind fun p => (asD y S2).bind fun q => (ixD p q).bind itemsD) S2
  | .sl a lo hi, e, S => (dE a e S).bind fun x S1 => (dO lo e S1).bind fun l S2 => (dO hi e S2).bind fun h S3 => lift ((asD x S3).bind fun p => (slD p l h).bind itemsD) S3
  | .call f as, e, S => (dL as e S).bind fun rs S1 => (C f rs S1).bind fun x S2 => lift ((pureD x).bind itemsD) S2
  | .bop op a b, e, S => (dE a e S).bind fun x S1 => (dE b e S1).bind fun y S2 => lift ((asW x S2).bind fun p => (asW y S2).bind fun q => (opB op p q).bind itemsD) S2
  | .bi f as, e, S => (dL as e S).bind fun rs S1 => lift ((asDs S1 rs).bind fun ds => (biD f ds).bind itemsD) S1
  | .ss a, e, S => (dE a e S).bind fun x S1 => lift ((asDs S1 [x]).bind fun ds => (ssD ds).bind itemsD) S1
  | .lc elt t it ifs own, e, S => ((dI it e S).bind fun xs S1 =>
      (lcD S1.length (fun x S2 => (dA t (.d x) (wipeE e own) S2).bind fun e2 S3 => (dIfs ifs e2 S3).bind fun k S4 =>
        if k then (dE elt e2 S4).bind fun y S5 => lift ((pureD y).map some) S5 else .ok none S4) xs (S1 ++ [.lst []])).bind fun _ S6 => lcEnd S1.length S6).bind fun x S7 => lift ((pureD x).bind itemsD) S7
  | _, _, _ => .bad
/-- a target -/
noncomputable def dA : Tg → R → Ev → Store → Out Ev
  | .v i, r, e, S => .ok (e.set i (some r)) S
  | .t ts, r, e, S => match r with
    | .d (.tuple ds) => if ds.length = ts.length then dAs ts ds e S else .bad
    | _ => .bad
  | .ix a b, r, e, S => (dE a e S).bind fun x S1 => (dE b e S1).bind fun y S2 => (setD x y r S2).bind fun _ S3 => .ok e S3
noncomputable def dAs : List Tg → List D → Ev → Store → Out Ev
  | [], [], e, S => .ok e S
  | t :: ts, d :: ds, e, S => (dA t (.d d) e S).bind fun e1 S1 => dAs ts ds e1 S1
  | _, _, _, _ => .bad
end
def setAll : List Nat → List R → Ev → Option Ev
  | [], [], e => some e
  | i :: is, r :: rs, e => setAll is rs (e.set i (some r))
  | _, _, _ => none
mutual
noncomputable def dS : CS → Ev → Store → Out (Fl × Ev)
  | .asg t a, e, S => (dE C G a e S).bind fun r S1 => (dA C G t r e S1).bind fun e1 S2 => .ok (.nx, e1) S2
  | .par is es, e, S => (dL C G es e S).bind fun rs S1 => (lift (setAll is rs e) S1).bind fun e1 S2 => .ok (.nx, e1) S2
  | .ex a, e, S => (dE C G a e S).bind fun _ S1 => .ok (.nx, e) S1
  | .ret a, e, S => (dE C G a e S).bind fun r S1 => .ok (.rt r, e) S1
  | .ret0, e, S => .ok (.rt (.d .none), e) S
  | .ite c a b, e, S => (dT C G c e S).bind fun k S1 => if k then dB a e S1 else dB b e S1
  | .for_ t it body, e, S => (dI C G it e S).bind fun xs S1 => forD (fun x e1 S2 => (dA C G t (.d x) e1 S2).bind fun e2 S3 => dB body e2 S3) xs e S1
  | .while_ c body, e, S => whD (dT C G c) (dB body) e S
  | .pass, e, S => .ok (.nx, e) S
  | .brk, e, S => .ok (.bk, e) S
  | .cnt, e, S => .ok (.ct, e) S
  | .never, _, _ => .bad
  | .fz i, e, S => match e[i]? with
    | some (some (.ref a)) => match S[a]? with
      | some (.lst ds) => .ok (.nx, e.set i (some (.d (.list ds)))) (S.set a .gone)
      | _ => .bad
    | _ => .bad
noncomputable def dB : List CS → Ev → Store → Out (Fl × Ev)
  | [], e, S => .ok (.nx, e) S
  | s :: ss, e, S => (dS s e S).bind fun p S1 =>
    match p.1 with
    | .nx => dB ss p.2 S1
    | f => .ok (f, p.2) S1
end
end

/-- a def: how many parameters and slots, its body -/
structure Fn where
  np : Nat
  ns : Nat
  body : List CS
def back (n : Nat) (o : Out (Fl × Ev)) : Out R :=
  o.bind fun p S1 => match p.1 with
    | .rt (.d x) => .ok (.d x) (S1.take n)
    | .rt (.ref i) => .ok (.ref i) (S1.take (max n (i + 1)))
    | .nx => .ok (.d .none) (S1.take n)
    | _ => .bad
noncomputable def runF (P : String → Option Fn) (G : String → Option D) : Nat → Fns
  | 0, _, _, _ => .bad
  | k + 1, f, rs, S => match P f with
    | some fn => if rs.length = fn.np then back S.length (dB (runF P G k) G fn.body (rs.map some ++ List.replicate (fn.ns - fn.np) none) S) else .bad
    | none => .bad
end Sx
set_option Elab.async false
set_option linter.all false
set_option maxHeartbeats 1000000
/-! Sx, part C: each reading is sound: expressions. -/
namespace Sx
open PySem PySem.Spec PyProof.Rows L2

abbrev XW := Exc → Store → (Nat → Addr) → Hp → Prop
def Post {t : Type} (K : PySem.W.Frag) (Xq : XW) (H : Hp) (S : Store) (F : Nat → Addr) (o : Out t) (Q : t → Store → (Nat → Addr) → Hp → Prop) : Prop :=
  match o with
  | .ok a S' => ∀ H' F', Wok K H' S' F' → Wle H S F H' S' F' → Q a S' F' H'
  | .exc x S' => ∀ H' F', Wok K H' S' F' → Wle H S F H' S' F' → Xq x S' F' H'
  | .bad => False
section
variable {t u : Type} {K : PySem.W.Frag} {Xq : XW} {H H' : Hp} {S S' : Store} {F F' : Nat → Addr}
theorem Post.mono {o : Out t} {Q : t → Store → (Nat → Addr) → Hp → Prop} (w : Wle H S F H' S' F') (h : Post K Xq H S F o Q) : Post K Xq H' S' F' o Q := by
  cases o with
  | ok a S1 => exact fun H1 F1 k l => h H1 F1 k (w.trans l)
  | exc x S1 => exact fun H1 F1 k l => h H1 F1 k (w.trans l)
  | bad => exact h
theorem Post.imp {o : Out t} {Q Q' : t → Store → (Nat → Addr) → Hp → Prop} (h : Post K Xq H S F o Q) (q : ∀ a S1 F1 H1, Wok K H1 S1 F1 → Wle H S F H1 S1 F1 → Q a S1 F1 H1 → Q' a S1 F1 H1) : Post K Xq H S F o Q' := by
  cases o with
  | ok a S1 => exact fun H1 F1 k l => q _ _ _ _ k l (h H1 F1 k l)
  | exc x S1 => exact h
  | bad => exact h
theorem Post.bind {o : Out t} {g : t → Store → Out u} {Q : u → Store → (Nat → Addr) → Hp → Prop} (h : Post K Xq H S F (o.bind g) Q) :
    Post K Xq H S F o (fun a S1 F1 H1 => Post K Xq H1 S1 F1 (g a S1) Q) := by
  cases o with
  | ok a S1 => exact fun H1 F1 k l => Post.mono l h
  | exc x S1 => exact h
  | bad => exact h
theorem Post.lift {o : Option t} {Q : t → Store → (Nat → Addr) → Hp → Prop} (w : Wok K H S F) (h : Post K Xq H S F (lift o S) Q) : ∃ a, o = some a ∧ Q a S F H := by
  cases o with
  | none => exact h.elim
  | some a => exact ⟨a, rfl, h H F w .refl⟩
theorem Post.ok {a : t} {Q : t → Store → (Nat → Addr) → Hp → Prop} (w : Wok K H S F) (h : Post K Xq H S F (.ok a S) Q) : Q a S F H := h H F w .refl
theorem Post.at_ {a : t} {Q : t → Store → (Nat → Addr) → Hp → Prop} (h : Post K Xq H S F (.ok a S') Q) (w : Wok K H' S' F') (l : Wle H S F H' S' F') : Q a S' F' H' := h H' F' w l
end

abbrev Fe := Ev → Store → Out R
def RE (K : PySem.W.Frag) (Xq : XW) (f : Fe) : TE := fun st H Q => ∃ e S F, Wok K H S F ∧ RepE K H S F e st ∧ Post K Xq H S F (f e S) (fun r S' F' H' => ∀ v, RepR K H' S' F' v r → Q v H')
def RT (K : PySem.W.Frag) (Xq : XW) (f : Ev → Store → Out Bool) : TT := fun st H Q => ∃ e S F, Wok K H S F ∧ RepE K H S F e st ∧ Post K Xq H S F (f e S) (fun b S' F' H' => Q b H')
def RA (K : PySem.W.Frag) (Xq : XW) (f : Ev → Store → Out (List R)) : TA := fun st H Q => ∃ e S F, Wok K H S F ∧ RepE K H S F e st ∧ Post K Xq H S F (f e S) (fun rs S' F' H' => ∀ vs, RepAll K H' S' F' vs rs → Q vs H')
theorem _root_.L2.PE.weak {X : Cx} {e : Expr} {t u : TE} (h : PE X e t) (w : ∀ st H Q, u st H Q → t st H Q) : PE X e u := ⟨fun pins s st H Q I q => h.run pins s st H Q I (w st H Q q)⟩
theorem _root_.L2.PT.weak {X : Cx} {e : Expr} {t u : TT} (h : PT X e t) (w : ∀ st H Q, u st H Q → t st H Q) : PT X e u := ⟨fun pins s st H Q I q => h.run pins s st H Q I (w st H Q q)⟩
theorem _root_.L2.PW.weak {X : Cx} {e : Expr} {t u : TT} (h : PW X e t) (w : ∀ st H Q, u st H Q → t st H Q) : PW X e u := ⟨fun wh pins s st H Q I q => h.run wh pins s st H Q I (w st H Q q)⟩
theorem _root_.L2.PA.weak {X : Cx} {e : List Expr} {t u : TA} (h : PA X e t) (w : ∀ st H Q, u st H Q → t st H Q) : PA X e u := ⟨fun p pins s st H Q I q => h.run p pins s st H Q I (w st H Q q)⟩
theorem _root_.L2.PK.weak {X : Cx} {e : List Keyword} {t u : TA} (h : PK X e t) (w : ∀ st H Q, u st H Q → t st H Q) : PK X e u := ⟨fun p pins s st H Q I q => h.run p pins s st H Q I (w st H Q q)⟩

/-! ### a value's datum, read -/
/-- v is x, its outermost list perhaps mutable -/
inductive Dt (K : PySem.W.Frag) (H : Hp) (A : Addr → Prop) : V → D → Prop
  | da {v : V} {x : D} : Da K H A v x → Dt K H A v x
  | ls {a : Addr} {vs : List V} {ds : List D} : SqL K H a vs → DaAll K H A vs ds → Dt K H A (.ref a) (.list ds)
section
variable {K : PySem.W.Frag} {Xq : XW} {H H' : Hp} {S S' : Store} {F F' : Nat → Addr} {v : V} {r : R} {x : D}
theorem dt_of (w : Wok K H S F) (h : RepR K H S F v r) (e : asD r S = some x) : Dt K H (Live S F) v x := by
  cases r with
  | d y => cases e; exact .da h
  | ref i =>
    obtain ⟨hi, rfl⟩ := h
    unfold asD at e
    dsimp only at e
    cases q : S[i]? with
    | none => rw [q] at e; cases e
    | some c =>
      rw [q] at e
      cases c with
      | gone => cases e
      | lst ds =>
        cases e
        obtain ⟨vs, h1, h2⟩ := w.cell i _ q
        exact .ls (SqL.of h1) h2
      | ro ds =>
        cases e
        obtain ⟨vs, h1, h2⟩ := w.cell i _ q
        exact .ls h1.sq h2
theorem Dt.asL {ds : List D} (h : Dt K H (Live S F) v (.list ds)) : ∃ a xs, v = .ref a ∧ SqL K H a xs ∧ DaAll K H (Live S F) xs ds := by
  cases h with
  | da h => obtain ⟨a, xs, e, q, r⟩ := h.asL; exact ⟨a, xs, e, SqL.of q, r⟩
  | ls h1 h2 => exact ⟨_, _, rfl, h1, h2⟩
theorem Dt.asT {ds : List D} (h : Dt K H (Live S F) v (.tuple ds)) : ∃ a xs, v = .ref a ∧ SqT K H a xs ∧ DaAll K H (Live S F) xs ds := by
  cases h with
  | da h => exact h.asT
theorem Dt.dp (h : Dt K H (Live S F) v x) (c : x.canLay0 = true) : Dp K H v x := by
  cases h with
  | da h => exact Da.dp _ _ h c
  | ls h1 h2 => exact .lst h1 (DaAll.dp _ _ h2 (by simpa [PyData.canLay0] using c))
theorem Dt.int {i : Int} (h : Dt K H (Live S F) v (.int i)) : v = .int i := by
  cases h with
  | da h => cases h; rfl
theorem Dt.str {i : Str} (h : Dt K H (Live S F) v (.str i)) : v = .str i := by
  cases h with
  | da h => cases h; rfl
theorem Dt.bl {i : Bool} (h : Dt K H (Live S F) v (.bool i)) : v = .bl i := by
  cases h with
  | da h => cases h; rfl
theorem Dt.non (h : Dt K H (Live S F) v .none) : v = .non := by
  cases h with
  | da h => cases h; rfl
theorem strFits_ok {z : Str} (h : strFits z = true) : z.length ≤ sizeLine := of_decide_eq_true h
/-- v is x, its outermost list to be joined -/
inductive Dw (K : PySem.W.Frag) (H : Hp) (A : Addr → Prop) : V → D → Prop
  | da {v : V} {x : D} : Da K H A v x → Dw K H A v x
  | ls {a : Addr} {vs : List V} {ds : List D} : H a = some (.lst vs) → DaAll K H A vs ds → Dw K H A (.ref a) (.list ds)
theorem dw_of (w : Wok K H S F) (h : RepR K H S F v r) (e : asW r S = some x) : Dw K H (Live S F) v x := by
  cases r with
  | d y => cases e; exact .da h
  | ref i =>
    obtain ⟨hi, rfl⟩ := h
    unfold asW at e
    dsimp only at e
    cases q : S[i]? with
    | none => rw [q] at e; cases e
    | some c =>
      rw [q] at e
      cases c with
      | gone => cases e
      | ro ds => cases e
      | lst ds =>
        cases e
        obtain ⟨vs, h1, h2⟩ := w.cell i _ q
        exact .ls h1 h2
theorem Dw.dt (h : Dw K H (Live S F) v x) : Dt K H (Live S F) v x := by
  cases h with
  | da h => exact .da h
  | ls h1 h2 => exact .ls (SqL.of h1) h2
theorem Dw.asL {ds : List D} (h : Dw K H (Live S F) v (.list ds)) : ∃ a xs, v = .ref a ∧ H a = some (.lst xs) ∧ DaAll K H (Live S F) xs ds := by
  cases h with
  | da h => exact h.asL
  | ls h1 h2 => exact ⟨_, _, rfl, h1, h2⟩
/-- truth -/
theorem tru_of {k : Bool} (h : Dt K H (Live S F) v x) (e : truD x = some k) : TruV K v H k := by
  cases x with
  | none => cases h.non; cases e; rfl
  | bool b => cases h.bl; cases e; rfl
  | int i => cases h.int; cases e; rfl
  | str z =>
    cases h.str
    unfold truD at e
    dsimp only at e
    split at e
    · rename_i q; cases e; exact ⟨strFits_ok q, rfl⟩
    · cases e
  | list ds =>
    obtain ⟨a, xs, rfl, hs, hd⟩ := h.asL
    cases e
    refine .inl ⟨xs, hs, ?_⟩
    have := hd.length
    cases xs <;> cases ds <;> simp_all
  | tuple ds =>
    obtain ⟨a, xs, rfl, hs, hd⟩ := h.asT
    cases e
    refine .inr (.inl ⟨xs, hs, ?_⟩)
    have := hd.length
    cases xs <;> cases ds <;> simp_all
  | dict kvs =>
    cases h with
    | da h =>
      cases h with
      | dct h1 h2 =>
        cases e
        exact .inr (.inr ⟨[], h1, rfl⟩)
      | dctK h =>
        cases kvs with
        | nil => exact absurd rfl h.ne
        | cons p r => cases e
end

section
variable {X : Cx} {Xq : XW} {a b c : Expr} {pos : Pos} {fa fb fc : Fe}
abbrev SE (X : Cx) (Xq : XW) (e : Expr) (f : Fe) : Prop := PE X e (RE X.K Xq f)
abbrev ST (X : Cx) (Xq : XW) (e : Expr) (f : Ev → Store → Out Bool) : Prop := PT X e (RT X.K Xq f)
abbrev SW (X : Cx) (Xq : XW) (e : Expr) (f : Ev → Store → Out Bool) : Prop := PW X e (RT X.K Xq f)
abbrev SA (X : Cx) (Xq : XW) (es : List Expr) (f : Ev → Store → Out (List R)) : Prop := PA X es (RA X.K Xq f)

/-! ### leaves -/
theorem RE.leaf {K : PySem.W.Frag} {x : D} {v : V} {st : L2.St} {H : Hp} {Q : VK} (d : ∀ A, Da K H A v x) (h : RE K Xq (fun _ S => .ok (.d x) S) st H Q) : Q v H := by
  obtain ⟨e, S, F, w, re, p⟩ := h
  exact p.ok w v (d _)
theorem se_i {i : Int} {j} : SE X Xq (.Constant (.int i) j pos) (fun _ S => .ok (.d (.int i)) S) := pe_int.weak fun _ _ _ h => RE.leaf (fun _ => .int i) h
theorem se_s {x : Str} {j} : SE X Xq (.Constant (.str x) j pos) (fun _ S => .ok (.d (.str x)) S) := pe_str.weak fun _ _ _ h => RE.leaf (fun _ => .str x) h
theorem se_b {x : Bool} {j} : SE X Xq (.Constant (.bool x) j pos) (fun _ S => .ok (.d (.bool x)) S) := pe_bl.weak fun _ _ _ h => RE.leaf (fun _ => .bl x) h
theorem se_non {j} : SE X Xq (.Constant .none j pos) (fun _ S => .ok (.d .none) S) := pe_non.weak fun _ _ _ h => RE.leaf (fun _ => .non) h
theorem se_v {i : Nat} {x : Str} (hN : X.N[i]? = some x) (hv : Vis X.env.scope x) (hd : (x == ("__debug__" : Str)) = false) (hcd : (x == ("__classdict__" : Str)) = false) : SE X Xq (.Name x pos) (fun e S => getV e i S) :=
  (pe_var hN hv hd hcd).weak fun st H Q h => by
    obtain ⟨e, S, F, w, re, p⟩ := h
    replace p : Post X.K Xq H S F (getV e i S) _ := p
    unfold getV at p
    cases q : e[i]? with
    | none => rw [q] at p; exact p.elim
    | some o =>
      cases o with
      | none => rw [q] at p; exact p.elim
      | some r =>
        rw [q] at p
        obtain ⟨v, h1, h2⟩ := re.at_ i r q
        exact ⟨v, h1, p.ok w v h2⟩
theorem se_g {x : Str} {y : D} {v : V} {u : Value} (hg : Gl X x) (hm : X.mg x = some u) (r : RelV v u) (d : ∀ H A, Da X.K H A v y) (hd : (x == ("__debug__" : Str)) = false) : SE X Xq (.Name x pos) (fun _ S => .ok (.d y) S) :=
  (pe_glob hg hm r hd).weak fun st H Q h => RE.leaf (d H) h

/-! ### two values, one operation -/
/-- from the reading of two in a row -/
theorem RE.two {K : PySem.W.Frag} {st : L2.St} {H : Hp} {t : Type} {Q : t → Store → (Nat → Addr) → Hp → Prop} {P : V → V → Hp → Prop} {g : R → R → Store → Out t}
    (h : ∃ e S F, Wok K H S F ∧ RepE K H S F e st ∧ Post K Xq H S F ((fa e S).bind fun x S1 => (fb e S1).bind fun y S2 => g x y S2) Q)
    (k : ∀ x y S2 F2 H2 v u, Wok K H2 S2 F2 → RepR K H2 S2 F2 v x → RepR K H2 S2 F2 u y → Post K Xq H2 S2 F2 (g x y S2) Q → P v u H2) :
    RE K Xq fa st H fun v H1 => RE K Xq fb st H1 fun u H2 => P v u H2 := by
  obtain ⟨e, S, F, w, re, p⟩ := h
  refine ⟨e, S, F, w, re, p.bind.imp fun x S1 F1 H1 w1 l1 p1 v hv => ?_⟩
  refine ⟨e, S1, F1, w1, re.le l1, p1.bind.imp fun y S2 F2 H2 w2 l2 p2 u hu => ?_⟩
  exact k x y S2 F2 H2 v u w2 (hv.le l2) hu p2
/-- .. the operation by a rule on data -/
theorem RE.twoD {K : PySem.W.Frag} {st : L2.St} {H : Hp} {t : Type} {Q : t → Store → (Nat → Addr) → Hp → Prop} {P : V → V → Hp → Prop} {g : D → D → Option t}
    (h : ∃ e S F, Wok K H S F ∧ RepE K H S F e st ∧ Post K Xq H S F ((fa e S).bind fun x S1 => (fb e S1).bind fun y S2 => lift ((asD x S2).bind fun p => (asD y S2).bind fun q => g p q) S2) Q)
    (k : ∀ p q z S2 F2 H2 v u, Wok K H2 S2 F2 → Dt K H2 (Live S2 F2) v p → Dt K H2 (Live S2 F2) u q → g p q = some z → (∀ H3, Wok K H3 S2 F2 → Wle H2 S2 F2 H3 S2 F2 → Q z S2 F2 H3) → P v u H2) :
    RE K Xq fa st H fun v H1 => RE K Xq fb st H1 fun u H2 => P v u H2 := by
  refine RE.two h fun x y S2 F2 H2 v u w hv hu p => ?_
  cases e1 : asD x S2 with
  | none => rw [e1] at p; exact p.elim
  | some p1 =>
    cases e2 : asD y S2 with
    | none => rw [e1, e2] at p; exact p.elim
    | some q1 =>
      rw [e1, e2] at p
      simp only [Option.bind_some] at p
      cases e3 : g p1 q1 with
      | none => rw [e3] at p; exact p.elim
      | some z =>
        rw [e3] at p
        exact k p1 q1 z S2 F2 H2 v u w (dt_of w hv e1) (dt_of w hu e2) e3 fun H3 w3 l3 => p.at_ w3 l3
/-- what a rule on two values gives is what the pure operation gives -/
def OpS (K : PySem.W.Frag) (r : R2) (op : D → D → Option D) : Prop :=
  ∀ p q z S F H v u Q, Wok K H S F → Dt K H (Live S F) v p → Dt K H (Live S F) u q → op p q = some z → (∀ H3 w, Wok K H3 S F → Wle H S F H3 S F → Da K H3 (Live S F) w z → Q w H3) → r v u H Q
def OpW (K : PySem.W.Frag) (r : R2) (op : D → D → Option D) : Prop :=
  ∀ p q z S F H v u Q, Wok K H S F → Dw K H (Live S F) v p → Dw K H (Live S F) u q → op p q = some z → (∀ H3 w, Wok K H3 S F → Wle H S F H3 S F → Da K H3 (Live S F) w z → Q w H3) → r v u H Q
theorem RE.twoW {K : PySem.W.Frag} {st : L2.St} {H : Hp} {t : Type} {Q : t → Store → (Nat → Addr) → Hp → Prop} {P : V → V → Hp → Prop} {g : D → D → Option t}
    (h : ∃ e S F, Wok K H S F ∧ RepE K H S F e st ∧ Post K Xq H S F ((fa e S).bind fun x S1 => (fb e S1).bind fun y S2 => lift ((asW x S2).bind fun p => (asW y S2).bind fun q => g p q) S2) Q)
    (k : ∀ p q z S2 F2 H2 v u, Wok K H2 S2 F2 → Dw K H2 (Live S2 F2) v p → Dw K H2 (Live S2 F2) u q → g p q = some z → (∀ H3, Wok K H3 S2 F2 → Wle H2 S2 F2 H3 S2 F2 → Q z S2 F2 H3) → P v u H2) :
    RE K Xq fa st H fun v H1 => RE K Xq fb st H1 fun u H2 => P v u H2 := by
  refine RE.two h fun x y S2 F2 H2 v u w hv hu p => ?_
  cases e1 : asW x S2 with
  | none => rw [e1] at p; exact p.elim
  | some p1 =>
    cases e2 : asW y S2 with
    | none => rw [e1, e2] at p; exact p.elim
    | some q1 =>
      rw [e1, e2] at p
      simp only [Option.bind_some] at p
      cases e3 : g p1 q1 with
      | none => rw [e3] at p; exact p.elim
      | some z =>
        rw [e3] at p
        exact k p1 q1 z S2 F2 H2 v u w (dw_of w hv e1) (dw_of w hu e2) e3 fun H3 w3 l3 => p.at_ w3 l3
theorem se_bop {op : Operator} {f : D → D → Option D} {r : R2} (ho : OpR X (binaryOp op) r) (hs : OpW X.K r f) (ha : SE X Xq a fa) (hb : SE X Xq b fb) :
    SE X Xq (.BinOp a op b pos) (fun e S => (fa e S).bind fun x S1 => (fb e S1).bind fun y S2 => lift ((asW x S2).bind fun p => (asW y S2).bind fun q => (f p q).map R.d) S2) :=
  (pe_op ho ha hb).weak fun st H Q h => RE.twoW (g := fun p q => (f p q).map R.d) h fun p q z S2 F2 H2 v u w hv hu e k => by
    cases e1 : f p q with
    | none => rw [e1] at e; cases e
    | some y =>
      rw [e1] at e; cases e
      exact hs p q y S2 F2 H2 v u Q w hv hu e1 fun H3 w' w3 l3 d3 => k H3 w3 l3 w' d3
theorem se_cmp {op : CmpOp} {f : D → D → Option Bool} {r : R2} (ho : OpR X (compareOp op) r) (hs : OpS X.K r fun p q => (f p q).map PyData.bool) (ha : SE X Xq a fa) (hb : SE X Xq b fb) (hm : behindInMarks op b = false) :
    SE X Xq (.Compare a [op] [b] pos) (fun e S => (fa e S).bind fun x S1 => (fb e S1).bind fun y S2 => lift ((asD x S2).bind fun p => (asD y S2).bind fun q => (f p q).map fun b => .d (.bool b)) S2) :=
  (pe_cmpR ho ha hb hm).weak fun st H Q h => RE.twoD (g := fun p q => (f p q).map fun b => R.d (.bool b)) h fun p q z S2 F2 H2 v u w hv hu e k => by
    cases e1 : f p q with
    | none => rw [e1] at e; cases e
    | some y =>
      rw [e1] at e; cases e
      exact hs p q (.bool y) S2 F2 H2 v u Q w hv hu (by simp [e1]) fun H3 w' w3 l3 d3 => k H3 w3 l3 w' d3
theorem st_cmp {op : CmpOp} {f : D → D → Option Bool} {r : R2} (ho : OpR X (compareOp op) r) (hs : OpS X.K r fun p q => (f p q).map PyData.bool) (ha : SE X Xq a fa) (hb : SE X Xq b fb) (hm : behindInMarks op b = false) :
    ST X Xq (.Compare a [op] [b] pos) (fun e S => (fa e S).bind fun x S1 => (fb e S1).bind fun y S2 => lift ((asD x S2).bind fun p => (asD y S2).bind fun q => f p q) S2) :=
  (pt_cmpR ho ha hb hm).weak fun st H Q h => RE.twoD (g := f) h fun p q z S2 F2 H2 v u w hv hu e k => by
    refine hs p q (.bool z) S2 F2 H2 v u _ w hv hu (by simp [e]) fun H3 w' w3 l3 d3 => ?_
    cases d3
    exact ⟨z, rfl, k H3 w3 l3⟩
end

/-! ### the operations -/
section
theorem Dw.int {K : PySem.W.Frag} {H : Hp} {A : Addr → Prop} {v : V} {i : Int} (h : Dw K H A v (.int i)) : v = .int i := by
  cases h with
  | da h => cases h; rfl
theorem Dw.str {K : PySem.W.Frag} {H : Hp} {A : Addr → Prop} {v : V} {i : Str} (h : Dw K H A v (.str i)) : v = .str i := by
  cases h with
  | da h => cases h; rfl
theorem Dw.tup {K : PySem.W.Frag} {H : Hp} {A : Addr → Prop} {v : V} {ds : List D} (h : Dw K H A v (.tuple ds)) : Da K H A v (.tuple ds) := by
  cases h with
  | da h => exact h
theorem tuple_mul1 (l : Addr) (items : Array Value) (n : Nat) (dd : Option Addr) (sl : Array (Option Value)) (x : Int) (u : Tok) (c0 : (decide (x < -(2 ^ 63)) || decide (x ≥ 2 ^ 63)) = false) (c1 : (items.isEmpty || x == 1) = true) :
    Meets (Builtin.«tuple.__mul__» ⟨[.ref l, .int x u], []⟩) (fun _ R s => s.heap.get? l = some { cls := .type "tuple", dict := dd, data := .seq items n, slots := sl } ∧ R (.ok (.ret (Value.ref l))) s) :=
  .of_wp fun prog w A R s h => by
    obtain ⟨hp, g, d, tk, os⟩ := s
    obtain ⟨hl, h⟩ := h
    have f1 := AutoSeq1.idx_int
    wp_walk using wpAny_loadPart' hl
    repeat (first
      | (refine wpAny_ite_false (decide_eq_false (by rw [c0]; exact Bool.false_ne_true)) ?_; wp_walk using wpAny_loadPart' hl)
      | (refine wpAny_ite_true (decide_eq_true (by rw [c1])) ?_; wp_walk using wpAny_loadPart' hl))
    exact ⟨_, rfl, h⟩
theorem tuple_mul0 (l : Addr) (items : Array Value) (n : Nat) (dd : Option Addr) (sl : Array (Option Value)) (x : Int) (u : Tok) (c0 : (decide (x < -(2 ^ 63)) || decide (x ≥ 2 ^ 63)) = false) (c1 : (items.isEmpty || x == 1) = false) (c2 : (decide (x ≤ 0) || items.isEmpty) = true) :
    Meets (Builtin.«tuple.__mul__» ⟨[.ref l, .int x u], []⟩) (fun _ R s => s.heap.get? l = some { cls := .type "tuple", dict := dd, data := .seq items n, slots := sl } ∧
      R (.ok (.ret (Value.ref s.heap.objs.size))) { s with heap := s.heap.push { cls := Value.type "tuple", data := Data.seq #[] }, toks := s.toks }) :=
  .of_wp fun prog w A R s h => by
    obtain ⟨hp, g, d, tk, os⟩ := s
    obtain ⟨hl, h⟩ := h
    have f1 := AutoSeq1.idx_int
    wp_walk using wpAny_loadPart' hl
    repeat (first
      | (refine wpAny_ite_false (decide_eq_false (by rw [c0]; exact Bool.false_ne_true)) ?_; wp_walk using wpAny_loadPart' hl)
      | (refine wpAny_ite_false (decide_eq_false (by rw [c1]; exact Bool.false_ne_true)) ?_; wp_walk using wpAny_loadPart' hl)
      | (refine wpAny_ite_true (decide_eq_true (by rw [c2])) ?_; wp_walk using wpAny_loadPart' hl))
    exact ⟨_, rfl, h⟩
/-- a tuple times an int -/
def rRepA (K : PySem.W.Frag) : R2 := fun x y H Q => ∃ l k xs, x = .ref l ∧ y = .int k ∧ SqT K H l xs ∧ -1000 ≤ k ∧ k ≤ 1000 ∧ xs.length ≤ 1000 ∧
  ((xs = [] ∨ k = 1) → Q (.ref l) H) ∧ (¬ (xs = [] ∨ k = 1) → ∀ p, H p = none → Q (.ref p) (upd H p (.tup (List.replicate k.toNat xs).flatten)))
variable {X : Cx}
theorem op_repA : OpR X (binaryOp .Mult) (rRepA X.K) := by
  intro pins s st H x y v u Q I rx ry h
  obtain ⟨l, k, xs, rfl, rfl, hT, h0, h1, hz, qa, qb⟩ := h
  by_cases hb : ¬ (xs = [] ∨ k = 1) ∧ 2 ≤ k
  · exact op_repT pins s st H _ _ v u Q I rx ry ⟨l, k, xs, rfl, rfl, hT, fun e => hb.1 (.inl e), hb.2, h1, hz, qb hb.1⟩
  cases rx
  obtain ⟨t, rfl⟩ := ry
  obtain ⟨its, r, ⟨⟨cls, dd, data, sl⟩, ho, hc, n, hd⟩, hs⟩ := I.tuple hT
  simp only at hc hd
  subst hc hd
  have hle : its.length = xs.length := r.length.symm
  have c0 : (decide (k < -(2 ^ 63)) || decide (k ≥ 2 ^ 63)) = false := by
    rw [decide_eq_false (by omega), decide_eq_false (by omega)] <;> rfl
  have emp : its.toArray.isEmpty = decide (xs = []) := by
    cases its with
    | nil => have : xs = [] := List.eq_nil_of_length_eq_zero hle.symm; simp [this]
    | cons a b => cases xs with
      | nil => simp at hle
      | cons c d => simp
  by_cases h2 : xs = [] ∨ k = 1
  · have c1 : (its.toArray.isEmpty || k == 1) = true := by
      rw [emp]
      rcases h2 with e | e <;> simp [e]
    refine wpAny_binaryOp_repeat_ref (T := "tuple") (U := "int") (by decide) ⟨_, ho, rfl⟩ (fun s' => typeIs_int s' k t) noFill_tuple_mul F.fills_int_mul F.slot_int_rmul repeat_tuple F.slot_int_index.lookup
      (call_meets F.slot_int_rmul (typeIs_int s k t) F.entry_int_rmul (F.args_int_rmul_2 _ _) (int_rmul_tuple k t l its.toArray n dd sl)
        ⟨ho, rfl, ⟨_, ho, rfl⟩, call_meets F.slot_tuple_mul ⟨_, ho, rfl⟩ F.entry_tuple_mul (F.args_tuple_mul_2 _ _) (tuple_mul1 l its.toArray n dd sl k t c0 c1) ⟨ho, ?_⟩⟩)
    exact ⟨.ref l, H, I, rfl, qa h2⟩
  · have c1 : (its.toArray.isEmpty || k == 1) = false := by
      rw [emp]
      have a1 : ¬ xs = [] := fun e => h2 (.inl e)
      have a2 : ¬ k = 1 := fun e => h2 (.inr e)
      simp [a1, a2]
    have hk : k ≤ 0 := by
      have a2 : ¬ k = 1 := fun e => h2 (.inr e)
      have a3 : ¬ 2 ≤ k := fun e => hb ⟨h2, e⟩
      omega
    have c2 : (decide (k ≤ 0) || its.toArray.isEmpty) = true := by simp [hk]
    refine wpAny_binaryOp_repeat_ref (T := "tuple") (U := "int") (by decide) ⟨_, ho, rfl⟩ (fun s' => typeIs_int s' k t) noFill_tuple_mul F.fills_int_mul F.slot_int_rmul repeat_tuple F.slot_int_index.lookup
      (call_meets F.slot_int_rmul (typeIs_int s k t) F.entry_int_rmul (F.args_int_rmul_2 _ _) (int_rmul_tuple k t l its.toArray n dd sl)
        ⟨ho, rfl, ⟨_, ho, rfl⟩, call_meets F.slot_tuple_mul ⟨_, ho, rfl⟩ F.entry_tuple_mul (F.args_tuple_mul_2 _ _) (tuple_mul0 l its.toArray n dd sl k t c0 c1 c2) ⟨ho, ?_⟩⟩)
    have e0 : (List.replicate k.toNat xs).flatten = [] := by
      have : k.toNat = 0 := by omega
      rw [this]; rfl
    have q := qb h2 _ I.fresh
    rw [e0] at q
    refine ⟨.ref s.heap.objs.size, _, I.laid (t' := s.toks) (o := .tup []) (fun b ob q => Heap.get?_push_of_some _ q) (Nat.le_refl _) ?_, rfl, q⟩
    exact ⟨by show 0 ≤ sizeLine; omega, [], .nil, IsTup.new _ _⟩
/-- // by what is not nought -/
theorem op_fdivA : OpR X (binaryOp .FloorDiv) (rI (fun _ j => j ≠ 0 ∧ j.natAbs.log2 < 9000) fun i j => .int (i.fdiv j)) :=
  opI fun _ _ _ _ _ _ _ hc q => floordiv_int hc.1 q (.inl (PyProof.noPylong_of_log2 hc.2))

def bopO : Bop → Operator
  | .add => .Add | .sub => .Sub | .mul => .Mult | .fdiv => .FloorDiv | .mod => .Mod | .pow => .Pow | .shl => .LShift
section
variable {K : PySem.W.Frag}
theorem ow_add : OpW K (fun x y H Q => (rI0 fun i j => .int (i + j)) x y H Q ∨ (∃ i j, x = .str i ∧ y = .str j ∧ i.length + j.length ≤ sizeLine ∧ Q (.str (i ++ j)) H) ∨ rCatA K x y H Q ∨ rCat x y H Q) (opB .add) := by
  intro p q z S F H v u Q w hv hu e k
  cases p <;> cases q <;> try (simp only [opB] at e; cases e; done)
  case int.int i j =>
    simp only [opB] at e; cases e
    cases hv.int; cases hu.int
    exact .inl ⟨i, j, rfl, rfl, k H _ w .refl (.int _)⟩
  case str.str i j =>
    simp only [opB] at e
    split at e
    · rename_i hz; cases e
      cases hv.str; cases hu.str
      exact .inr (.inl ⟨i, j, rfl, rfl, of_decide_eq_true hz, k H _ w .refl (.str _)⟩)
    · cases e
  case list.list i j =>
    simp only [opB] at e
    split at e
    · rename_i hz; cases e
      obtain ⟨a, xs, rfl, ha, da⟩ := hv.asL
      obtain ⟨b, ys, rfl, hb, db⟩ := hu.asL
      refine .inr (.inr (.inr ⟨a, b, xs, ys, rfl, rfl, ha, hb, ?_, fun p hp => ?_⟩))
      · rw [da.length, db.length]; exact of_decide_eq_true hz
      · obtain ⟨w1, l1⟩ := w.alloc (o := .lst (xs ++ ys)) hp
        exact k _ _ w1 l1 (.lst upd_same (w.notLive hp) ((da.append db).le l1))
    · cases e
  case tuple.tuple i j =>
    simp only [opB] at e
    split at e
    · rename_i hz; cases e
      have ha := hv.tup
      have hb := hu.tup
      obtain ⟨a, xs, rfl, sa, da⟩ := ha.asT
      obtain ⟨b, ys, rfl, sb, db⟩ := hb.asT
      refine .inr (.inr (.inl ⟨a, b, xs, ys, rfl, rfl, sa, sb, ?_, fun e => ?_, fun _ e => ?_, fun _ _ p hp => ?_⟩))
      · rw [da.length, db.length]; exact of_decide_eq_true hz
      · subst e; cases da; exact k H _ w .refl hb
      · subst e; cases db; rw [List.append_nil] at k; exact k H _ w .refl ha
      · obtain ⟨w1, l1⟩ := w.alloc (o := .tup (xs ++ ys)) hp
        exact k _ _ w1 l1 (.tup (.inl upd_same) (w.notLive hp) ((da.append db).le l1))
    · cases e
theorem ow_sub : OpW K (rI0 fun i j => .int (i - j)) (opB .sub) := by
  intro p q z S F H v u Q w hv hu e k
  cases p <;> cases q <;> try (simp only [opB] at e; cases e; done)
  case int.int i j =>
    simp only [opB] at e; cases e
    cases hv.int; cases hu.int
    exact ⟨i, j, rfl, rfl, k H _ w .refl (.int _)⟩
theorem ow_mul : OpW K (fun x y H Q => rI CMulW (fun i j => .int (i * j)) x y H Q ∨ rRepA K x y H Q ∨ rRep x y H Q) (opB .mul) := by
  intro p q z S F H v u Q w hv hu e k
  cases p <;> cases q <;> try (simp only [opB] at e; cases e; done)
  case int.int i j =>
    simp only [opB] at e
    split at e
    · rename_i hz; cases e
      cases hv.int; cases hu.int
      simp only [mulOk, decide_eq_true_eq] at hz
      exact .inl ⟨i, j, rfl, rfl, hz, k H _ w .refl (.int _)⟩
    · cases e
  case tuple.int i j =>
    simp only [opB] at e
    split at e
    · rename_i hz; cases e
      simp only [Bool.and_eq_true, decide_eq_true_eq] at hz
      have ha := hv.tup
      cases hu.int
      obtain ⟨a, xs, rfl, sa, da⟩ := ha.asT
      refine .inr (.inl ⟨a, j, xs, rfl, rfl, sa, hz.1.1, hz.1.2, by rw [da.length]; exact hz.2, fun e => ?_, fun _ p hp => ?_⟩)
      · have e2 : (List.replicate j.toNat i).flatten = i := by
          rcases e with e | e
          · subst e; cases da; simp
          · subst e; simp
        rw [e2] at k
        exact k H _ w .refl ha
      · obtain ⟨w1, l1⟩ := w.alloc (o := .tup (List.replicate j.toNat xs).flatten) hp
        exact k _ _ w1 l1 (.tup (.inl upd_same) (w.notLive hp) ((da.rep _).le l1))
    · cases e
  case list.int i j =>
    simp only [opB] at e
    split at e
    · rename_i hz; cases e
      simp only [Bool.and_eq_true, decide_eq_true_eq, lenFits] at hz
      cases hu.int
      obtain ⟨a, xs, rfl, sa, da⟩ := hv.asL
      refine .inr (.inr ⟨a, j, xs, rfl, rfl, sa, hz.1.1, hz.1.2, by rw [da.length]; exact hz.2, fun p hp => ?_⟩)
      obtain ⟨w1, l1⟩ := w.alloc (o := .lst (List.replicate j.toNat xs).flatten) hp
      exact k _ _ w1 l1 (.lst upd_same (w.notLive hp) ((da.rep _).le l1))
    · cases e
theorem ow_fdiv : OpW K (rI (fun _ j => j ≠ 0 ∧ j.natAbs.log2 < 9000) fun i j => .int (i.fdiv j)) (opB .fdiv) := by
  intro p q z S F H v u Q w hv hu e k
  cases p <;> cases q <;> try (simp only [opB] at e; cases e; done)
  case int.int i j =>
    simp only [opB] at e
    split at e
    · rename_i hz; cases e
      simp only [divOk, Bool.and_eq_true, decide_eq_true_eq] at hz
      cases hv.int; cases hu.int
      exact ⟨i, j, rfl, rfl, hz, k H _ w .refl (.int _)⟩
    · cases e
theorem ow_mod : OpW K (rI (fun _ j => j ≠ 0) fun i j => .int (i.fmod j)) (opB .mod) := by
  intro p q z S F H v u Q w hv hu e k
  cases p <;> cases q <;> try (simp only [opB] at e; cases e; done)
  case int.int i j =>
    simp only [opB] at e
    split at e
    · cases e
    · rename_i hz; cases e
      cases hv.int; cases hu.int
      exact ⟨i, j, rfl, rfl, hz, k H _ w .refl (.int _)⟩
theorem ow_pow : OpW K (rI CPow fun i j => .int (i ^ j.toNat)) (opB .pow) := by
  intro p q z S F H v u Q w hv hu e k
  cases p <;> cases q <;> try (simp only [opB] at e; cases e; done)
  case int.int i j =>
    simp only [opB] at e
    split at e
    · rename_i hz; cases e
      simp only [powOk, Bool.and_eq_true, decide_eq_true_eq] at hz
      cases hv.int; cases hu.int
      exact ⟨i, j, rfl, rfl, ⟨hz.1.1, hz.1.2, hz.2⟩, k H _ w .refl (.int _)⟩
    · cases e
theorem ow_shl : OpW K (rI CPow fun i j => .int (i * 2 ^ j.toNat)) (opB .shl) := by
  intro p q z S F H v u Q w hv hu e k
  cases p <;> cases q <;> try (simp only [opB] at e; cases e; done)
  case int.int i j =>
    simp only [opB] at e
    split at e
    · rename_i hz; cases e
      simp only [powOk, Bool.and_eq_true, decide_eq_true_eq] at hz
      cases hv.int; cases hu.int
      exact ⟨i, j, rfl, rfl, ⟨hz.1.1, hz.1.2, hz.2⟩, k H _ w .refl (.int _)⟩
    · cases e
end
theorem bop_ok (op : Bop) : ∃ r, OpR X (binaryOp (bopO op)) r ∧ OpW X.K r (opB op) := by
  cases op with
  | add => exact ⟨_, op_add.or (op_add_str.or (op_catA.or op_cat)), ow_add⟩
  | sub => exact ⟨_, op_sub, ow_sub⟩
  | mul => exact ⟨_, op_mulW.or (op_repA.or op_rep), ow_mul⟩
  | fdiv => exact ⟨_, op_fdivA, ow_fdiv⟩
  | mod => exact ⟨_, op_modN, ow_mod⟩
  | pow => exact ⟨_, op_pow, ow_pow⟩
  | shl => exact ⟨_, op_shl, ow_shl⟩
end
end Sx
set_option Elab.async false
set_option linter.all false
set_option maxHeartbeats 1000000
/-! Sx, part Eq: == of tuples within which dicts lie. -/
namespace PySem.SeqAt
open AutoSeq1 (wpAny_loadPart')
open MeetsSeq
theorem str_eq_declines_dct (b : Str) (u : Tok) (l : Addr) (c : Value) (es : Array DictEntry) (n : Nat) (dd : Option Addr) (sl : Array (Option Value)) :
    Meets (Builtin.«str.__eq__» ⟨[.str b u, .ref l], []⟩) (fun _ R s => s.heap.get? l = some { cls := c, dict := dd, data := .dict es n, slots := sl } ∧ R (.ok (.ret .notImplemented)) s) :=
  .of_wp fun prog w A R s h => by obtain ⟨hp, g, d, tk, os⟩ := s; obtain ⟨hl, h⟩ := h; wp_walk using wpAny_loadPart' hl, wpAny_load hl; exact ⟨_, rfl, h⟩
section
variable {A : Around} {s : Shared}
theorem RcAt.dct_str {l : Addr} {o : Obj} (b : Str) (u : Tok) (hl : s.heap.get? l = some o) (hc : o.cls = .type "dict") (hnt : ∃ es n, o.data = .dict es n) (hu : A.units < cLine) : RcAt A s (.ref l) (.str b u) false := fun prog w E Q h => by
  obtain ⟨cls, dd, data, sl⟩ := o
  obtain ⟨es, n, hd⟩ := hnt
  simp only at hc hd
  subst hc hd
  have ht : s.TypeIs (.ref l) "dict" := ⟨_, hl, rfl⟩
  exact rc_eq_decline_or (k := false) ht (typeIs_str s b u) (by decide) F.sub_str_dict F.slot_dict_eq F.slot_str_eq_refl
    (fun Q' hq => wpAny_call_entry F.slot_dict_eq ht F.entry_dict_eq (by
      show wpAny _ _ (Builtin.Dict.dictSlotArgs "__eq__" ⟨[.ref l, .str b u], []⟩ >>= _) _ _ s
      refine wpAny_bind ?_
      unfold Builtin.Dict.dictSlotArgs
      refine wpAny_bind (wpAny_notOrdered_dict ht ?_)
      show wpAny _ _ (pure (Value.ref l, Value.str b u)) _ _ s
      refine wpAny_pure ?_
      refine wpAny_bind (wpAny_isInstance (T := "str") (typeIs_str s b u) F.sub_str_dict ?_)
      simp only [Bool.not_false, if_true]
      refine wpAny_bind (wpAny_rule ?_)
      exact wpAny_pure ⟨_, rfl, hq⟩) (F.args_dict_eq_2 _ _))
    (fun _ hq => call_meets F.slot_str_eq_refl (typeIs_str s b u) F.entry_str_eq (F.args_str_eq_2 _ _) (str_eq_declines_dct b u l (.type "dict") es n dd sl) ⟨hl, hq⟩)
    (fun _ hq => wpAny_of_eq (rfl : isSame (.ref l) (.str b u) = pure false) hq) (.inr hu) h
theorem EqAt.dct_str {l : Addr} {o : Obj} (b : Str) (u : Tok) (hl : s.heap.get? l = some o) (hc : o.cls = .type "dict") (hnt : ∃ es n, o.data = .dict es n) (hu : A.units < cLine) : EqAt A s (.ref l) (.str b u) false := fun prog w E Q h => by
  unfold eqBool
  refine wpAny_holding ?_
  refine wpAny_ite_split (fun hab => absurd (eq_of_beq hab) nofun) (fun _ => ?_)
  exact wpAny_bind (RcAt.dct_str b u hl hc hnt hu prog w E _ (wpAny_truthy_bool h))
end
end PySem.SeqAt
namespace Sx
open PySem PySem.Spec PyProof.Rows L2
def IsDct (K : PySem.W.Frag) (H : Hp) (c : Addr) : Prop := H c = some (.dK []) ∨ ∃ o, K.lookup c = some o ∧ o.cls = .type "dict" ∧ ∃ es n, o.data = .dict es n
def rEqT (K : PySem.W.Frag) (f : Bool → Bool) : R2 := fun x y H Q => ∃ a b xs ys, x = .ref a ∧ y = .ref b ∧ SqT K H a xs ∧ SqT K H b ys ∧
  ((ys = [] ∧ Q (.bl (f xs.isEmpty)) H) ∨ ∃ c z, xs = [.ref c] ∧ ys = [.str z] ∧ IsDct K H c ∧ Q (.bl (f false)) H)
section
variable {X : Cx} {pins : List (Addr × Obj)} {σ : L2.St} {H : Hp} {s : Shared}
theorem IsDct.obj {c : Addr} (I : Inv X pins σ H s) (h : IsDct X.K H c) : ∃ o, s.heap.get? c = some o ∧ o.cls = .type "dict" ∧ ∃ es n, o.data = .dict es n := by
  rcases h with h | ⟨o, h1, h2, h3⟩
  · obtain ⟨_, _, vs, _, o, es, ep, ho, hx, hd, _⟩ := (show ObjOk X.prog X.w H s.heap c (.dK []) from I.hok c _ h)
    exact ⟨o, ho, hx.1, es, ep, hd⟩
  · exact ⟨o, I.kIn c o h1, h2, h3⟩
theorem eqT_at {xs ys : List V} {its its2 : List Value} {A : Around} (hu : A.units + 64 < cLine) (I : Inv X pins σ H s) (h1 : Vals xs its) (h2 : Vals ys its2)
    (h : ys = [] ∨ ∃ c z, xs = [.ref c] ∧ ys = [.str z] ∧ IsDct X.K H c) : ∀ j (h1 : j < its.toArray.size) (h2 : j < its2.toArray.size), SeqAt.EqAt A.in1 s its.toArray[j] its2.toArray[j] false := by
  intro j j1 j2
  rcases h with rfl | ⟨c, z, rfl, rfl, hd⟩
  · cases h2; simp at j2
  · obtain ⟨o, ho, hc, hn⟩ := hd.obj I
    cases h1 with
    | cons r1 t1 =>
      cases t1
      cases h2 with
      | cons r2 t2 =>
        cases t2
        cases r1
        obtain ⟨t, rfl⟩ := r2
        have : j = 0 := by simp at j1; exact j1
        subst this
        exact SeqAt.EqAt.dct_str z t ho hc hn (by show A.in1.units < cLine; simp only [Around.in1] <;> omega)
theorem op_eqT (hu : X.A.units + 64 < cLine) : OpR X (compareOp .Eq) (rEqT X.K id) := by
  intro pins s σ H x y v u Q I rx ry h
  obtain ⟨a, b, xs, ys, rfl, rfl, ha, hb, h⟩ := h
  obtain rfl : v = Value.ref a := rx
  obtain rfl : u = Value.ref b := ry
  obtain ⟨its, r1, p1, _⟩ := I.tuple ha
  obtain ⟨its2, r2, p2, _⟩ := I.tuple hb
  have he := eqT_at hu I r1 r2 (h.imp (·.1) fun ⟨c, z, e1, e2, e3, _⟩ => ⟨c, z, e1, e2, e3⟩)
  refine SeqAt.eq_tupleAt p1 p2 (by omega) he ?_
  rcases h with ⟨rfl, q⟩ | ⟨c, z, rfl, rfl, _, q⟩
  · cases r2
    refine ⟨.bl _, H, I, ?_, q⟩
    cases r1 <;> simp [L2.RelV]
  · cases r1 with
    | cons _ t1 =>
      cases t1
      cases r2 with
      | cons _ t2 =>
        cases t2
        exact ⟨.bl _, H, I, by simp [L2.RelV], q⟩
theorem op_neT (hu : X.A.units + 64 < cLine) : OpR X (compareOp .NotEq) (rEqT X.K not) := by
  intro pins s σ H x y v u Q I rx ry h
  obtain ⟨a, b, xs, ys, rfl, rfl, ha, hb, h⟩ := h
  obtain rfl : v = Value.ref a := rx
  obtain rfl : u = Value.ref b := ry
  obtain ⟨its, r1, p1, _⟩ := I.tuple ha
  obtain ⟨its2, r2, p2, _⟩ := I.tuple hb
  have he := eqT_at hu I r1 r2 (h.imp (·.1) fun ⟨c, z, e1, e2, e3, _⟩ => ⟨c, z, e1, e2, e3⟩)
  refine SeqAt.RcNeAt.tuples p1 p2 (by omega) he _ _ _ _ ?_
  rcases h with ⟨rfl, q⟩ | ⟨c, z, rfl, rfl, _, q⟩
  · cases r2
    refine ⟨.bl _, H, I, ?_, q⟩
    cases r1 <;> simp [L2.RelV]
  · cases r1 with
    | cons _ t1 =>
      cases t1
      cases r2 with
      | cons _ t2 =>
        cases t2
        exact ⟨.bl _, H, I, by simp [L2.RelV], q⟩
end
end Sx
set_option Elab.async false
set_option linter.all false
set_option maxHeartbeats 1000000
/-! Sx, part D: comparisons, built-in calls, isinstance, places, slices. -/
namespace Sx
open PySem PySem.Spec PyProof.Rows L2
section
variable {X : Cx} {K : PySem.W.Frag} {w : World}
def copO : Cop → CmpOp
  | .eq => .Eq | .ne => .NotEq | .lt => .Lt | .le => .LtE | .gt => .Gt | .ge => .GtE | .isx => .Is | .isn => .IsNot | .inx => .In | .nin => .NotIn
theorem leafEq_ok {S : Store} {F : Nat → Addr} {H : Hp} {p q : D} {v u : V} {b : Bool} (hv : Dt K H (Live S F) v p) (hu : Dt K H (Live S F) u q) (e : leafEq p q = some b) : scal v u = true ∧ decide (v = u) = b := by
  cases p <;> cases q <;> first
    | (simp only [leafEq] at e; cases e; done)
    | (simp only [leafEq, Option.some.injEq] at e; subst e; (first | cases hv.non | cases hv.int | cases hv.bl | cases hv.str); (first | cases hu.non | cases hu.int | cases hu.bl | cases hu.str); refine ⟨rfl, ?_⟩; first | exact dec_int | exact dec_bl | exact dec_str | simp)
theorem dct_is {A : Addr → Prop} {H : Hp} {v : V} (h : Da K H A v (.dict [])) : ∃ t, v = .ref t ∧ IsDct K H t := by
  cases h with
  | dct r n => exact ⟨_, rfl, .inl r⟩
  | dctK h => exact absurd rfl h.ne
theorem eqT_ok {S : Store} {F : Nat → Addr} {H : Hp} {p q : D} {v u : V} {b : Bool} (hv : Dt K H (Live S F) v p) (hu : Dt K H (Live S F) u q) (e : eqT p q = some b) :
    ∃ a c xs ys, v = .ref a ∧ u = .ref c ∧ SqT K H a xs ∧ SqT K H c ys ∧ ((ys = [] ∧ xs.isEmpty = b) ∨ ∃ t z, xs = [.ref t] ∧ ys = [.str z] ∧ IsDct K H t ∧ b = false) := by
  unfold eqT at e
  split at e
  · rename_i ds
    cases e
    cases hv with
    | da hv =>
    cases hu with
    | da hu =>
    obtain ⟨a, xs, rfl, s1, a1⟩ := hv.asT
    obtain ⟨c, ys, rfl, s2, a2⟩ := hu.asT
    cases a2
    refine ⟨a, c, xs, [], rfl, rfl, s1, s2, .inl ⟨rfl, ?_⟩⟩
    cases a1 <;> rfl
  · rename_i z
    cases e
    cases hv with
    | da hv =>
    cases hu with
    | da hu =>
    obtain ⟨a, xs, rfl, s1, a1⟩ := hv.asT
    obtain ⟨c, ys, rfl, s2, a2⟩ := hu.asT
    cases a1 with
    | cons r1 t1 =>
      cases t1
      cases a2 with
      | cons r2 t2 =>
        cases t2
        cases r2
        obtain ⟨t, rfl, ht⟩ := dct_is r1
        exact ⟨a, c, _, _, rfl, rfl, s1, s2, .inr ⟨t, z, rfl, rfl, ht, rfl⟩⟩
  · cases e
theorem eqD_ok {r : R2} {S : Store} {F : Nat → Addr} {H : Hp} {p q : D} {v u : V} {b : Bool} (hv : Dt K H (Live S F) v p) (hu : Dt K H (Live S F) u q) (e : eqD p q = some b) :
    (scal v u = true ∧ decide (v = u) = b) ∨ (∃ d e', Dp K H v d ∧ Dp K H u e' ∧ SeqAt.shaped d = true ∧ SeqAt.shaped e' = true ∧ PyData.eqv d e' = b) ∨
    (∃ a c xs ys, v = .ref a ∧ u = .ref c ∧ SqT K H a xs ∧ SqT K H c ys ∧ ((ys = [] ∧ xs.isEmpty = b) ∨ ∃ t z, xs = [.ref t] ∧ ys = [.str z] ∧ IsDct K H t ∧ b = false)) := by
  unfold eqD at e
  split at e
  · rename_i b' h; cases e; exact .inl (leafEq_ok hv hu h)
  · split at e
    · rename_i h; cases e
      rw [Bool.and_eq_true] at h
      exact .inr (.inl ⟨p, q, hv.dp (SeqAt.canLay_of_shaped h.1), hu.dp (SeqAt.canLay_of_shaped h.2), h.1, h.2, rfl⟩)
    · exact .inr (.inr (eqT_ok hv hu e))
theorem os_eq : OpS K (fun x y H Q => rEq x y H Q ∨ rEqD K x y H Q ∨ rEqT K id x y H Q) fun p q => (cmpD .eq p q).map PyData.bool := by
  intro p q z S F H v u Q w hv hu e k
  dsimp only at e
  simp only [cmpD] at e
  cases e1 : eqD p q with
  | none => rw [e1] at e; cases e
  | some b =>
    rw [e1] at e; cases e
    have qq := k H (.bl b) w .refl (.bl b)
    rcases eqD_ok (r := rEq) hv hu e1 with ⟨h1, h2⟩ | ⟨d, d', h1, h2, h3, h4, h5⟩ | ⟨a, c, xs, ys, h1, h2, h3, h4, h5⟩
    · exact .inl ⟨h1, by rw [h2]; exact qq⟩
    · exact .inr (.inl ⟨d, d', h1, h2, h3, h4, by rw [h5]; exact qq⟩)
    · refine .inr (.inr ⟨a, c, xs, ys, h1, h2, h3, h4, ?_⟩)
      rcases h5 with ⟨h5, h6⟩ | ⟨t, z, h5, h6, h7, h8⟩
      · exact .inl ⟨h5, by rw [h6]; exact qq⟩
      · subst h8; exact .inr ⟨t, z, h5, h6, h7, qq⟩
theorem os_ne : OpS K (fun x y H Q => rNe x y H Q ∨ rNeD K x y H Q ∨ rEqT K not x y H Q) fun p q => (cmpD .ne p q).map PyData.bool := by
  intro p q z S F H v u Q w hv hu e k
  dsimp only at e
  simp only [cmpD] at e
  cases e1 : eqD p q with
  | none => rw [e1] at e; cases e
  | some b =>
    rw [e1] at e; cases e
    have qq := k H (.bl (!b)) w .refl (.bl _)
    rcases eqD_ok (r := rEq) hv hu e1 with ⟨h1, h2⟩ | ⟨d, d', h1, h2, h3, h4, h5⟩ | ⟨a, c, xs, ys, h1, h2, h3, h4, h5⟩
    · exact .inl ⟨h1, by rw [h2]; exact qq⟩
    · exact .inr (.inl ⟨d, d', h1, h2, h3, h4, by rw [h5]; exact qq⟩)
    · refine .inr (.inr ⟨a, c, xs, ys, h1, h2, h3, h4, ?_⟩)
      rcases h5 with ⟨h5, h6⟩ | ⟨t, z, h5, h6, h7, h8⟩
      · exact .inl ⟨h5, by rw [h6]; exact qq⟩
      · subst h8; exact .inr ⟨t, z, h5, h6, h7, qq⟩
theorem os_ord {op : Cop} {g : Int → Int → Bool} (h : ∀ p q b, cmpD op p q = some b → ∃ i j, p = .int i ∧ q = .int j ∧ b = g i j) : OpS K (rI0 fun i j => .bl (g i j)) fun p q => (cmpD op p q).map PyData.bool := by
  intro p q z S F H v u Q w hv hu e k
  dsimp only at e
  cases e1 : cmpD op p q with
  | none => rw [e1] at e; cases e
  | some b =>
    rw [e1] at e; cases e
    obtain ⟨i, j, rfl, rfl, rfl⟩ := h p q b e1
    cases hv.int; cases hu.int
    exact ⟨i, j, rfl, rfl, k H _ w .refl (.bl _)⟩
theorem os_is : OpS K (fun x y H Q => rIsB x y H Q ∨ (y = .non ∧ Q (.bl (decide (x = .non))) H)) fun p q => (cmpD .isx p q).map PyData.bool := by
  intro p q z S F H v u Q w hv hu e k
  dsimp only at e
  cases e1 : cmpD .isx p q with
  | none => rw [e1] at e; cases e
  | some b =>
    rw [e1] at e; cases e
    have qq := k H (.bl b) w .refl (.bl b)
    cases p <;> cases q <;> (try (simp only [cmpD] at e1; cases e1; done)) <;> (simp only [cmpD, Option.some.injEq] at e1; subst e1)
    case bool.bool => cases hv.bl; cases hu.bl; exact .inl ⟨_, _, rfl, rfl, qq⟩
    case none.none => cases hv.non; cases hu.non; exact .inr ⟨rfl, qq⟩
    case int.none => cases hv.int; cases hu.non; exact .inr ⟨rfl, qq⟩
    case bool.none => cases hv.bl; cases hu.non; exact .inr ⟨rfl, qq⟩
    case str.none => cases hv.str; cases hu.non; exact .inr ⟨rfl, qq⟩
    case list.none => obtain ⟨a, xs, rfl, _⟩ := hv.asL; cases hu.non; exact .inr ⟨rfl, qq⟩
    case tuple.none => obtain ⟨a, xs, rfl, _⟩ := hv.asT; cases hu.non; exact .inr ⟨rfl, qq⟩
theorem os_isn : OpS K (fun x y H Q => rNotB x y H Q ∨ (y = .non ∧ Q (.bl (!decide (x = .non))) H)) fun p q => (cmpD .isn p q).map PyData.bool := by
  intro p q z S F H v u Q w hv hu e k
  dsimp only at e
  cases e1 : cmpD .isn p q with
  | none => rw [e1] at e; cases e
  | some b =>
    rw [e1] at e; cases e
    have qq := k H (.bl b) w .refl (.bl b)
    cases p <;> cases q <;> (try (simp only [cmpD] at e1; cases e1; done)) <;> (simp only [cmpD, Option.some.injEq] at e1; subst e1)
    case bool.bool => cases hv.bl; cases hu.bl; exact .inl ⟨_, _, rfl, rfl, qq⟩
    case none.none => cases hv.non; cases hu.non; exact .inr ⟨rfl, qq⟩
    case int.none => cases hv.int; cases hu.non; exact .inr ⟨rfl, qq⟩
    case bool.none => cases hv.bl; cases hu.non; exact .inr ⟨rfl, qq⟩
    case str.none => cases hv.str; cases hu.non; exact .inr ⟨rfl, qq⟩
    case list.none => obtain ⟨a, xs, rfl, _⟩ := hv.asL; cases hu.non; exact .inr ⟨rfl, qq⟩
    case tuple.none => obtain ⟨a, xs, rfl, _⟩ := hv.asT; cases hu.non; exact .inr ⟨rfl, qq⟩
/-- the dicts of the module have text keys, hashed as the world does -/
def LitOk (K : PySem.W.Frag) (w : World) : Prop := ∀ (x : Str) (a : Addr) (es : Array DictEntry) (n : Nat), PySem.W.nsIn K mainGlobals x = some (some (.ref a)) → K.lookup a = some ⟨.type "dict", none, .dict es n, #[]⟩ → PySem.W.KeysLit w.params es.toList
theorem dget_zip {K : PySem.W.Frag} {z : Str} : ∀ {ks : List Str} {vs : List V} {ds : List D}, ks.length = vs.length → DaKAll K vs ds →
    (∃ v d, (ks.zip vs).lookup z = some v ∧ dget ((ks.map PyData.str).zip ds) z = some d ∧ DaK K v d) ∨ ((ks.zip vs).lookup z = none ∧ dget ((ks.map PyData.str).zip ds) z = none)
  | [], [], [], _, .nil => .inr ⟨rfl, rfl⟩
  | [], _ :: _, _, h, _ => by cases h
  | _ :: _, [], _, h, _ => by cases h
  | k :: ks, v :: vs, d :: ds, h, .cons r t => by
    rw [List.zip_cons_cons, List.lookup_cons, List.map_cons, List.zip_cons_cons]
    unfold dget
    cases e : z == k with
    | true => exact .inl ⟨v, d, rfl, by simp, r⟩
    | false =>
      rcases dget_zip (z := z) (ks := ks) (by simpa using h) t with ⟨v', d', h1, h2, h3⟩ | ⟨h1, h2⟩
      · exact .inl ⟨v', d', h1, by simpa using h2, h3⟩
      · exact .inr ⟨h1, by simpa using h2⟩
/-- a text looked up in a dict of the module -/
theorem DctK.get {K : PySem.W.Frag} {w : World} {a : Addr} {kvs : List (D × D)} (h : DctK K a kvs) (hl : LitOk K w) (z : Str) : ∃ es n, KDict K w a es n ∧
    ((∃ u v d, PySem.W.nsIn K a z = some (some u) ∧ RelV v u ∧ dget kvs z = some d ∧ DaK K v d) ∨ (PySem.W.nsIn K a z = some none ∧ dget kvs z = none)) := by
  obtain ⟨x, es, n, ks, vs, ds, h1, h2, h3, h4, h5, rfl⟩ := h.ex
  refine ⟨es, n, ⟨h2, hl x a es n h1 h2, h3⟩, ?_⟩
  have q := h4.2 z
  rcases dget_zip (z := z) h4.1 h5 with ⟨v, d, e1, e2, e3⟩ | ⟨e1, e2⟩
  · rw [e1] at q
    obtain ⟨u, q1, q2⟩ := q
    exact .inl ⟨u, v, d, q1, q2, e2, e3⟩
  · rw [e1] at q
    exact .inr ⟨q, e2⟩
def rInK (K : PySem.W.Frag) (w : World) (neg : Bool) : R2 := fun x y H Q => ∃ (z : Str) (d : Addr) (es : Array DictEntry) (n : Nat) (r : Option Value), KDict K w d es n ∧ x = .str z ∧ y = .ref d ∧ PySem.W.nsIn K d z = some r ∧ Q (.bl (if neg then !r.isSome else r.isSome)) H
theorem op_inK : OpR X (compareOp .In) (rInK X.K X.w false) := fun pins s st H x y v u Q I rx ry h => by
  obtain ⟨z, d, es, n, r, D, e1, e2, e3, q⟩ := h
  exact op_in_kd D pins s st H x y v u Q I rx ry ⟨z, r, e1, e2, e3, q⟩
theorem op_ninK : OpR X (compareOp .NotIn) (rInK X.K X.w true) := fun pins s st H x y v u Q I rx ry h => by
  obtain ⟨z, d, es, n, r, D, e1, e2, e3, q⟩ := h
  exact op_notIn_kd D pins s st H x y v u Q I rx ry ⟨z, r, e1, e2, e3, q⟩
theorem flat_of {H : Hp} {A : Addr → Prop} {v : V} {d : D} (h : Da K H A v d) (f : flatD d = true) : flatV v = true := by
  cases h <;> first | rfl | cases f
theorem eqF_of {H : Hp} {A : Addr → Prop} {v u : V} {d e : D} (h : Da K H A v d) (k : Da K H A u e) (f : flatD d = true) (g : flatD e = true) : eqV v u = eqF d e := by
  cases h <;> (first | (cases f; done) | skip) <;> cases k <;> first | rfl | (cases g; done)
theorem flats_of {H : Hp} {A : Addr → Prop} : ∀ {vs : List V} {ds : List D}, DaAll K H A vs ds → ds.all flatD = true → vs.all flatV = true
  | _, _, .nil, _ => rfl
  | _, _, .cons h t, f => by
    rw [List.all_cons, Bool.and_eq_true] at f
    rw [List.all_cons, flat_of h f.1, flats_of t f.2]; rfl
theorem inV_of {H : Hp} {A : Addr → Prop} {u : V} {e : D} (k : Da K H A u e) (g : flatD e = true) : ∀ {vs : List V} {ds : List D}, DaAll K H A vs ds → ds.all flatD = true → inV u vs = ds.any fun d => eqF d e
  | _, _, .nil, _ => rfl
  | _, _, .cons h t, f => by
    rw [List.all_cons, Bool.and_eq_true] at f
    have := inV_of k g t f.2
    unfold inV at this ⊢
    rw [List.any_cons, List.any_cons, this, eqF_of h k f.1 g]
/-- in: what stands on the right, by its kind -/
def rInA (K : PySem.W.Frag) (w : World) (neg : Bool) : R2 := fun x y H Q => rIn K neg x y H Q ∨ (if neg then rNotInD K else rInD K) x y H Q ∨ rInK K w neg x y H Q ∨
  ∃ (c : Nat) (z : Str), x = .str ⟨#[c]⟩ ∧ y = .str z ∧ Q (.bl (if neg then !decide (c ∈ z.cps.toList) else decide (c ∈ z.cps.toList))) H
theorem op_inA (hu : X.A.units + 65 < cLine) : OpR X (compareOp .In) (rInA X.K X.w false) := op_in_seq.or ((op_inD hu).or (op_inK.or op_in_sign))
theorem op_ninA (hu : X.A.units + 65 < cLine) : OpR X (compareOp .NotIn) (rInA X.K X.w true) := op_notIn_seq.or ((op_notInD hu).or (op_ninK.or op_notIn_sign))
theorem in_at {neg : Bool} {w : World} (hl : LitOk K w) {S : Store} {F : Nat → Addr} {H : Hp} {p q : D} {v u : V} {b : Bool} {Q : VK} (hv : Dt K H (Live S F) v p) (hu : Dt K H (Live S F) u q) (ne : q ≠ .dict []) (e : inD p q = some b) (k : Q (.bl (if neg then !b else b)) H) : rInA K w neg v u H Q := by
  have flat : ∀ {ds : List D} {a : Addr} {xs : List V}, (SqL K H a xs ∨ SqT K H a xs) → DaAll K H (Live S F) xs ds → u = .ref a → inSeq p ds = some b → rInA K w neg v u H Q := fun {ds a xs} sq da eu e => by
    unfold inSeq at e
    split at e
    · rename_i hf; cases e
      rw [Bool.and_eq_true] at hf
      have hp : Da K H (Live S F) v p := by
        cases hv with
        | da h => exact h
        | ls _ _ => cases hf.1
      exact .inl ⟨a, xs, eu, sq, flat_of hp hf.1, flats_of da hf.2, by rw [inV_of hp hf.1 da hf.2]; exact k⟩
    · cases e
  cases q with
  | tuple ds =>
    have e : inSeq p ds = some b := by cases p <;> exact e
    obtain ⟨a, xs, rfl, sq, da⟩ := hu.asT
    exact flat (.inr sq) da rfl e
  | list ds =>
    have e : (match inSeq p ds with
      | some b => some b
      | none => if SeqAt.shaped p && SeqAt.shaped (.list ds) then some (ds.any fun z => PyData.eqv z p) else none) = some b := by cases p <;> exact e
    obtain ⟨a, xs, eu, sq, da⟩ := hu.asL
    split at e
    · rename_i b' h; cases e
      exact flat (.inl sq) da eu h
    · split at e
      · rename_i hs; cases e
        rw [Bool.and_eq_true] at hs
        refine .inr (.inl ?_)
        cases neg with
        | true => exact ⟨p, ds, hv.dp (SeqAt.canLay_of_shaped hs.1), hu.dp (SeqAt.canLay_of_shaped hs.2), hs.1, hs.2, k⟩
        | false => exact ⟨p, ds, hv.dp (SeqAt.canLay_of_shaped hs.1), hu.dp (SeqAt.canLay_of_shaped hs.2), hs.1, hs.2, k⟩
      · cases e
  | dict kvs =>
    cases p <;> try (simp only [inD] at e; cases e; done)
    case str z =>
      simp only [inD] at e
      cases hv.str
      cases hu with
      | da hu =>
        cases hu with
        | dct _ _ => exact absurd rfl ne
        | dctK h =>
          obtain ⟨es, n, D, hg⟩ := h.get hl z
          refine .inr (.inr (.inl ?_))
          rcases hg with ⟨u0, v0, d, g1, _, g2, _⟩ | ⟨g1, g2⟩
          · rw [g2] at e; cases e
            exact ⟨z, _, es, n, some u0, D, rfl, rfl, g1, k⟩
          · rw [g2] at e; cases e
            exact ⟨z, _, es, n, none, D, rfl, rfl, g1, k⟩
  | str z =>
    cases p <;> try (simp only [inD] at e; cases e; done)
    case str x =>
      simp only [inD] at e
      cases hv.str; cases hu.str
      split at e
      · rename_i c hc; cases e
        have ex : x = ⟨#[c]⟩ := by
          obtain ⟨cps⟩ := x
          have : cps = #[c] := by
            apply Array.ext'
            exact hc
          rw [this]
        subst ex
        exact .inr (.inr (.inr ⟨c, z, rfl, rfl, k⟩))
      · cases e
  | none => cases p <;> (simp only [inD] at e; cases e)
  | bool _ => cases p <;> (simp only [inD] at e; cases e)
  | int _ => cases p <;> (simp only [inD] at e; cases e)
theorem os_in (hl : LitOk K w) : OpS K (rInA K w false) fun p q => (cmpD .inx p q).map PyData.bool := by
  intro p q z S F H v u Q wk hv hu e k
  dsimp only at e
  cases e1 : cmpD .inx p q with
  | none => rw [e1] at e; cases e
  | some b =>
    rw [e1] at e; cases e
    have ne : q ≠ .dict [] := fun z => by subst z; cases e1
    have e2 : inD p q = some b := by
      cases q with
      | dict kvs => cases kvs with
        | nil => exact absurd rfl ne
        | cons _ _ => exact e1
      | _ => exact e1
    exact in_at hl hv hu ne e2 (k H (.bl b) wk .refl (.bl b))
theorem os_nin (hl : LitOk K w) : OpS K (rInA K w true) fun p q => (cmpD .nin p q).map PyData.bool := by
  intro p q z S F H v u Q wk hv hu e k
  dsimp only at e
  cases e1 : cmpD .nin p q with
  | none => rw [e1] at e; cases e
  | some b =>
    rw [e1] at e; cases e
    have ne : q ≠ .dict [] := fun z => by subst z; cases e1
    have e2 : (inD p q).map (!·) = some b := by
      cases q with
      | dict kvs => cases kvs with
        | nil => exact absurd rfl ne
        | cons _ _ => exact e1
      | _ => exact e1
    rw [Option.map_eq_some_iff] at e2
    obtain ⟨b', e2, rfl⟩ := e2
    exact in_at hl hv hu ne e2 (k H (.bl (!b')) wk .refl (.bl _))
theorem cop_ok (hu : X.A.units + 65 < cLine) (hl : LitOk X.K X.w) (op : Cop) : ∃ r, OpR X (compareOp (copO op)) r ∧ OpS X.K r fun p q => (cmpD op p q).map PyData.bool := by
  cases op with
  | eq => exact ⟨_, op_eq.or ((op_eqD (by omega)).or (op_eqT (by omega))), os_eq⟩
  | ne => exact ⟨_, op_ne.or ((op_neD (by omega)).or (op_neT (by omega))), os_ne⟩
  | lt => exact ⟨_, op_lt, os_ord fun p q b h => by cases p <;> cases q <;> simp only [cmpD] at h <;> cases h; exact ⟨_, _, rfl, rfl, rfl⟩⟩
  | le => exact ⟨_, op_le, os_ord fun p q b h => by cases p <;> cases q <;> simp only [cmpD] at h <;> cases h; exact ⟨_, _, rfl, rfl, rfl⟩⟩
  | gt => exact ⟨_, op_gt, os_ord fun p q b h => by cases p <;> cases q <;> simp only [cmpD] at h <;> cases h; exact ⟨_, _, rfl, rfl, rfl⟩⟩
  | ge => exact ⟨_, op_ge, os_ord fun p q b h => by cases p <;> cases q <;> simp only [cmpD] at h <;> cases h; exact ⟨_, _, rfl, rfl, rfl⟩⟩
  | isx => exact ⟨_, op_isBl.or op_isN, os_is⟩
  | isn => exact ⟨_, op_notBl.or op_notN, os_isn⟩
  | inx => exact ⟨_, op_inA hu, os_in hl⟩
  | nin => exact ⟨_, op_ninA hu, os_nin hl⟩
end
end Sx
set_option Elab.async false
set_option linter.all false
set_option maxHeartbeats 1000000
/-! Sx, part E: each construct's reading. -/
namespace Sx
open PySem PySem.Spec PyProof.Rows L2
section
variable {t1 u : Type} {K : PySem.W.Frag} {Xq : XW} {st : L2.St} {H : Hp}
def EX (K : PySem.W.Frag) (Xq : XW) (st : L2.St) (H : Hp) (f : Ev → Store → Out t1) (Q : t1 → Store → (Nat → Addr) → Hp → Prop) : Prop :=
  ∃ e S F, Wok K H S F ∧ RepE K H S F e st ∧ Post K Xq H S F (f e S) Q
theorem EX.e {fa : Fe} {g : Ev → R → Store → Out u} {Q : u → Store → (Nat → Addr) → Hp → Prop} {P : V → Hp → Prop} (h : EX K Xq st H (fun e S => (fa e S).bind (g e)) Q)
    (k : ∀ e x S1 F1 H1 v, Wok K H1 S1 F1 → RepE K H1 S1 F1 e st → RepR K H1 S1 F1 v x → Post K Xq H1 S1 F1 (g e x S1) Q → P v H1) : RE K Xq fa st H P := by
  obtain ⟨e, S, F, w, re, p⟩ := h
  exact ⟨e, S, F, w, re, p.bind.imp fun x S1 F1 H1 w1 l1 p1 v hv => k e x S1 F1 H1 v w1 (re.le l1) hv p1⟩
theorem EX.t {fa : Ev → Store → Out Bool} {g : Ev → Bool → Store → Out u} {Q : u → Store → (Nat → Addr) → Hp → Prop} {P : Bool → Hp → Prop} (h : EX K Xq st H (fun e S => (fa e S).bind (g e)) Q)
    (k : ∀ e x S1 F1 H1, Wok K H1 S1 F1 → RepE K H1 S1 F1 e st → Post K Xq H1 S1 F1 (g e x S1) Q → P x H1) : RT K Xq fa st H P := by
  obtain ⟨e, S, F, w, re, p⟩ := h
  exact ⟨e, S, F, w, re, p.bind.imp fun x S1 F1 H1 w1 l1 p1 => k e x S1 F1 H1 w1 (re.le l1) p1⟩
theorem EX.a {fa : Ev → Store → Out (List R)} {g : Ev → List R → Store → Out u} {Q : u → Store → (Nat → Addr) → Hp → Prop} {P : List V → Hp → Prop} (h : EX K Xq st H (fun e S => (fa e S).bind (g e)) Q)
    (k : ∀ e x S1 F1 H1 vs, Wok K H1 S1 F1 → RepE K H1 S1 F1 e st → RepAll K H1 S1 F1 vs x → Post K Xq H1 S1 F1 (g e x S1) Q → P vs H1) : RA K Xq fa st H P := by
  obtain ⟨e, S, F, w, re, p⟩ := h
  exact ⟨e, S, F, w, re, p.bind.imp fun x S1 F1 H1 w1 l1 p1 vs hv => k e x S1 F1 H1 vs w1 (re.le l1) hv p1⟩
/-- the first of two stays -/
theorem EX.e2 {fa fb : Fe} {g : Ev → R → R → Store → Out u} {Q : u → Store → (Nat → Addr) → Hp → Prop} {P : V → V → Hp → Prop} (h : EX K Xq st H (fun e S => (fa e S).bind fun x S1 => (fb e S1).bind fun y S2 => g e x y S2) Q)
    (k : ∀ e x y S1 F1 H1 v u, Wok K H1 S1 F1 → RepE K H1 S1 F1 e st → RepR K H1 S1 F1 v x → RepR K H1 S1 F1 u y → Post K Xq H1 S1 F1 (g e x y S1) Q → P v u H1) : RE K Xq fa st H fun v H1 => RE K Xq fb st H1 fun u H2 => P v u H2 := by
  obtain ⟨e, S, F, w, re, p⟩ := h
  refine ⟨e, S, F, w, re, p.bind.imp fun x S1 F1 H1 w1 l1 p1 v hv => ?_⟩
  exact ⟨e, S1, F1, w1, re.le l1, p1.bind.imp fun y S2 F2 H2 w2 l2 p2 u hu => k e x y S2 F2 H2 v u w2 ((re.le l1).le l2) (hv.le l2) hu p2⟩
end
section
variable {X : Cx} {Xq : XW} {a b c : Expr} {pos : Pos} {fa fb fc : Fe} {es : List Expr} {fl : Ev → Store → Out (List R)}
/-- what a comparison gives, as data -/
theorem cmp_at {K : PySem.W.Frag} {r : R2} {g : D → D → Option Bool} (hs : OpS K r fun p q => (g p q).map PyData.bool) {S : Store} {F : Nat → Addr} {H : Hp} {v u : V} {x y : R} {Q : VK} {k : Bool} (w : Wok K H S F) (hv : RepR K H S F v x) (hu : RepR K H S F u y)
    (e : ((asD x S).bind fun p => (asD y S).bind fun q => g p q) = some k) (q : ∀ H3, Wok K H3 S F → Wle H S F H3 S F → Q (.bl k) H3) : r v u H Q := by
  cases e1 : asD x S with
  | none => rw [e1] at e; cases e
  | some p1 =>
    cases e2 : asD y S with
    | none => rw [e1, e2] at e; cases e
    | some q1 =>
      rw [e1, e2] at e
      simp only [Option.bind_some] at e
      refine hs p1 q1 (.bool k) S F H v u Q w (dt_of w hv e1) (dt_of w hu e2) (by simp [e]) fun H3 w' w3 l3 d3 => ?_
      cases d3
      exact q H3 w3 l3
theorem se_chain {op op' : CmpOp} {f g : D → D → Option Bool} {r r' : R2} (ho : OpR X (compareOp op) r) (hs : OpS X.K r fun p q => (f p q).map PyData.bool) (ho' : OpR X (compareOp op') r') (hs' : OpS X.K r' fun p q => (g p q).map PyData.bool)
    (ha : SE X Xq a fa) (hb : SE X Xq b fb) (hc : SE X Xq c fc) (hm : lastMarks [op, op'] [b, c] = false) :
    SE X Xq (.Compare a [op, op'] [b, c] pos) (fun e S => (fa e S).bind fun x S1 => (fb e S1).bind fun y S2 =>
      (lift ((asD x S2).bind fun p => (asD y S2).bind fun q => f p q) S2).bind fun k S3 =>
        if k then (fc e S3).bind fun z S4 => lift ((asD y S4).bind fun p => (asD z S4).bind fun q => (g p q).map fun b => .d (.bool b)) S4
        else .ok (.d (.bool false)) S3) :=
  (pe_chain ho ho' ha hb hc hm).weak fun st H Q h => EX.e2 (g := fun e x y S2 => (lift ((asD x S2).bind fun p => (asD y S2).bind fun q => f p q) S2).bind fun k S3 =>
        if k then (fc e S3).bind fun z S4 => lift ((asD y S4).bind fun p => (asD z S4).bind fun q => (g p q).map fun b => R.d (.bool b)) S4
        else .ok (.d (.bool false)) S3) h fun e x y S2 F2 H2 v u w re hv hu p => by
    obtain ⟨k, ek, p2⟩ := Post.lift w p.bind
    refine cmp_at hs w hv hu ek fun H3 w3 l3 => ⟨k, rfl, ?_⟩
    cases k with
    | false => exact p2.at_ w3 l3 _ (.bl false)
    | true =>
      rw [if_pos rfl] at p2 ⊢
      refine ⟨e, S2, F2, w3, re.le l3, (Post.mono l3 p2).bind.imp fun z S4 F4 H4 w4 l4 p4 vz hz => ?_⟩
      obtain ⟨k2, ek2, q2⟩ := Post.lift w4 p4
      have ek3 : ((asD y S4).bind fun p => (asD z S4).bind fun q => g p q).map (fun b => R.d (.bool b)) = some k2 := by
        rw [← ek2]
        cases asD y S4 <;> simp
        cases asD z S4 <;> simp
      rw [Option.map_eq_some_iff] at ek3
      obtain ⟨k3, ek3, rfl⟩ := ek3
      have pp := p4
      refine cmp_at hs' w4 ((hu.le l3).le l4) hz ek3 fun H5 w5 l5 => ?_
      have p5 : Post X.K Xq H4 S4 F4 (.ok (R.d (.bool k3)) S4) (fun r S' F' H' => ∀ v, RepR X.K H' S' F' v r → Q v H') := by rw [ek2] at p4; exact p4
      exact p5.at_ w5 l5 _ (.bl k3)
theorem st_chain {op op' : CmpOp} {f g : D → D → Option Bool} {r r' : R2} (ho : OpR X (compareOp op) r) (hs : OpS X.K r fun p q => (f p q).map PyData.bool) (ho' : OpR X (compareOp op') r') (hs' : OpS X.K r' fun p q => (g p q).map PyData.bool)
    (ha : SE X Xq a fa) (hb : SE X Xq b fb) (hc : SE X Xq c fc) (hm : lastMarks [op, op'] [b, c] = false) :
    ST X Xq (.Compare a [op, op'] [b, c] pos) (fun e S => (fa e S).bind fun x S1 => (fb e S1).bind fun y S2 =>
      (lift ((asD x S2).bind fun p => (asD y S2).bind fun q => f p q) S2).bind fun k S3 =>
        if k then (fc e S3).bind fun z S4 => lift ((asD y S4).bind fun p => (asD z S4).bind fun q => g p q) S4
        else .ok false S3) :=
  (pt_chain ho ho' ha hb hc hm).weak fun st H Q h => EX.e2 (P := fun v u H2 => r v u H2 fun z H3 => ∃ k, z = .bl k ∧ (if k = true then RE X.K Xq fc st H3 fun w' H4 => r' u w' H4 fun x H' => ∃ k, x = .bl k ∧ Q k H' else ∃ k, V.bl false = .bl k ∧ Q k H3)) (g := fun e x y S2 => (lift ((asD x S2).bind fun p => (asD y S2).bind fun q => f p q) S2).bind fun k S3 =>
        if k then (fc e S3).bind fun z S4 => lift ((asD y S4).bind fun p => (asD z S4).bind fun q => g p q) S4
        else .ok false S3) h fun e x y S2 F2 H2 v u w re hv hu p => by
    obtain ⟨k, ek, p2⟩ := Post.lift w p.bind
    refine cmp_at hs w hv hu ek fun H3 w3 l3 => ⟨k, rfl, ?_⟩
    cases k with
    | false => exact ⟨false, rfl, p2.at_ w3 l3⟩
    | true =>
      rw [if_pos rfl] at p2 ⊢
      refine ⟨e, S2, F2, w3, re.le l3, (Post.mono l3 p2).bind.imp fun z S4 F4 H4 w4 l4 p4 vz hz => ?_⟩
      obtain ⟨k2, ek2, q2⟩ := Post.lift w4 p4
      rw [ek2] at p4
      exact cmp_at hs' w4 ((hu.le l3).le l4) hz ek2 fun H5 w5 l5 => ⟨k2, rfl, p4.at_ w5 l5⟩
/-! ### a if t else b, not, minus -/
theorem se_ite {ft : Ev → Store → Out Bool} (hc : ST X Xq c ft) (ha : SE X Xq a fa) (hb : SE X Xq b fb) : SE X Xq (.IfExp c a b pos) (fun e S => (ft e S).bind fun k S1 => if k then fa e S1 else fb e S1) :=
  (pe_ifExp hc ha hb).weak fun st H Q h => EX.t (g := fun e k S1 => if k then fa e S1 else fb e S1) h fun e k S1 F1 H1 w re p => by
    cases k with
    | true => exact ⟨e, S1, F1, w, re, p⟩
    | false => exact ⟨e, S1, F1, w, re, p⟩
theorem se_not (ha : SE X Xq a fa) : SE X Xq (.UnaryOp .Not a pos) (fun e S => (fa e S).bind fun x S1 => lift ((tru x S1).map fun b => .d (.bool (!b))) S1) :=
  (pe_notT ha).weak fun st H Q h => EX.e (g := fun e x S1 => lift ((tru x S1).map fun b => R.d (.bool (!b))) S1) h fun e x S1 F1 H1 v w re hv p => by
    obtain ⟨k, ek, q⟩ := Post.lift w p
    rw [Option.map_eq_some_iff] at ek
    obtain ⟨k1, ek, rfl⟩ := ek
    unfold tru at ek
    rw [Option.bind_eq_some_iff] at ek
    obtain ⟨d, e1, e2⟩ := ek
    exact ⟨k1, tru_of (dt_of w hv e1) e2, q _ (.bl _)⟩
theorem st_not {ft : Ev → Store → Out Bool} (ha : ST X Xq a ft) : ST X Xq (.UnaryOp .Not a pos) (fun e S => (ft e S).bind fun k S1 => .ok (!k) S1) :=
  (pt_not ha).weak fun st H Q h => EX.t (g := fun e k S1 => .ok (!k) S1) h fun e k S1 F1 H1 w re p => p.ok w
theorem se_neg (ha : SE X Xq a fa) : SE X Xq (.UnaryOp .USub a pos) (fun e S => (fa e S).bind fun x S1 => match x with
    | .d (.int i) => .ok (.d (.int (-i))) S1
    | _ => .bad) :=
  (pe_un un_neg ha).weak fun st H Q h => EX.e (g := fun e x S1 => match x with
    | .d (.int i) => .ok (R.d (.int (-i))) S1
    | _ => .bad) h fun e x S1 F1 H1 v w re hv p => by
    cases x with
    | ref i => exact p.elim
    | d y =>
      cases y with
      | int i =>
        have hv' : Da X.K H1 (Live S1 F1) v (.int i) := hv
        cases hv'
        exact ⟨i, rfl, p.ok w _ (.int _)⟩
      | _ => exact p.elim
/-! ### truth of a value -/
theorem st_val (ha : SE X Xq a fa) (he : ∀ whole, isTrue a X.env whole = (do let v ← whole; standAt a.pos; holding [v] (truthy v))) : ST X Xq a (fun e S => (fa e S).bind fun x S1 => lift (tru x S1) S1) :=
  (pt_truth ha he).weak fun st H Q h => EX.e (g := fun e x S1 => lift (tru x S1) S1) h fun e x S1 F1 H1 v w re hv p => by
    obtain ⟨k, ek, q⟩ := Post.lift w p
    unfold tru at ek
    rw [Option.bind_eq_some_iff] at ek
    obtain ⟨d, e1, e2⟩ := ek
    exact ⟨k, tru_of (dt_of w hv e1) e2, q⟩
/-! ### arguments -/
theorem sa_nil : SA X Xq [] (fun _ S => .ok [] S) := pa_nil.weak fun st H Q ⟨e, S, F, w, re, p⟩ => p.ok w [] .nil
theorem sa_cons (ha : SE X Xq a fa) (hr : SA X Xq es fl) (hs : starEach (a :: es) X.env = (false, eval a X.env) :: starEach es X.env) :
    SA X Xq (a :: es) (fun e S => (fa e S).bind fun x S1 => (fl e S1).bind fun xs S2 => .ok (x :: xs) S2) :=
  (pa_cons ha hr hs).weak fun st H Q h => by
    obtain ⟨e, S, F, w, re, p⟩ := h
    refine ⟨e, S, F, w, re, p.bind.imp fun x S1 F1 H1 w1 l1 p1 v hv => ?_⟩
    exact ⟨e, S1, F1, w1, re.le l1, p1.bind.imp fun xs S2 F2 H2 w2 l2 p2 vs hvs => p2.ok w2 _ (.cons (hv.le l2) hvs)⟩
/-! ### displays -/
theorem pureDs_ok {K : PySem.W.Frag} {H : Hp} {S : Store} {F : Nat → Addr} : ∀ {vs : List V} {rs : List R} {ds : List D}, RepAll K H S F vs rs → pureDs rs = some ds → DaAll K H (Live S F) vs ds
  | _, _, _, .nil, e => by cases e; exact .nil
  | _, _, _, .cons (r := .d x) h t, e => by
    rw [pureDs_d, Option.map_eq_some_iff] at e
    obtain ⟨l, e1, rfl⟩ := e
    exact .cons h (pureDs_ok t e1)
  | _, _, _, .cons (r := .ref i) h t, e => by cases e
theorem se_tup {x1} (ha : SA X Xq es fl) : SE X Xq (.Tuple es x1 pos) (fun e S => (fl e S).bind fun rs S1 => lift ((pureDs rs).bind fun ds => if lenFits ds.length then some (.d (.tuple ds)) else none) S1) :=
  (pe_tup ha).weak fun st H Q h => EX.a (g := fun e rs S1 => lift ((pureDs rs).bind fun ds => if lenFits ds.length then some (R.d (.tuple ds)) else none) S1) h fun e rs S1 F1 H1 vs w re hv p => by
    obtain ⟨r, er, q⟩ := Post.lift w p
    rw [er] at p
    rw [Option.bind_eq_some_iff] at er
    obtain ⟨ds, e1, e2⟩ := er
    split at e2
    · rename_i hz; cases e2
      have da := pureDs_ok hv e1
      refine ⟨by rw [da.length]; exact of_decide_eq_true hz, fun a ha => ?_⟩
      obtain ⟨w1, l1⟩ := w.alloc (o := .tup vs) ha
      exact p.at_ w1 l1 _ (.tup (.inl upd_same) (w.notLive ha) (da.le l1))
    · cases e2
theorem se_lst (ha : SA X Xq es fl) : SE X Xq (.List es pos) (fun e S => (fl e S).bind fun rs S1 => lift ((pureDs rs).bind fun ds => if lenFits ds.length then some (.d (.list ds)) else none) S1) :=
  (pe_lst ha).weak fun st H Q h => EX.a (g := fun e rs S1 => lift ((pureDs rs).bind fun ds => if lenFits ds.length then some (R.d (.list ds)) else none) S1) h fun e rs S1 F1 H1 vs w re hv p => by
    obtain ⟨r, er, q⟩ := Post.lift w p
    rw [er] at p
    rw [Option.bind_eq_some_iff] at er
    obtain ⟨ds, e1, e2⟩ := er
    split at e2
    · rename_i hz; cases e2
      have da := pureDs_ok hv e1
      refine ⟨by rw [da.length]; exact of_decide_eq_true hz, fun a ha => ?_⟩
      obtain ⟨w1, l1⟩ := w.alloc (o := .lst vs) ha
      exact p.at_ w1 l1 _ (.lst upd_same (w.notLive ha) (da.le l1))
    · cases e2
/-- a list display that is to be changed -/
theorem se_newlst (ha : SA X Xq es fl) : SE X Xq (.List es pos) (fun e S => ((fl e S).bind fun rs S1 => lift ((pureDs rs).bind fun ds => if lenFits ds.length then some (.d (.list ds)) else none) S1).bind newD) :=
  (pe_lst ha).weak fun st H Q h => by
    obtain ⟨e, S, F, w, re, p⟩ := h
    refine ⟨e, S, F, w, re, p.bind.bind.imp fun rs S1 F1 H1 w1 l1 p1 vs hv => ?_⟩
    obtain ⟨r, er, q⟩ := Post.lift w1 p1
    rw [Option.bind_eq_some_iff] at er
    obtain ⟨ds, e1, e2⟩ := er
    split at e2
    · rename_i hz; cases e2
      have da := pureDs_ok hv e1
      refine ⟨by rw [da.length]; exact of_decide_eq_true hz, fun a ha => ?_⟩
      obtain ⟨w2, l2⟩ := w1.newCell ha da
      refine Post.at_ (show Post X.K Xq H1 S1 F1 (.ok (R.ref S1.length) (S1 ++ [.lst ds])) _ from q) w2 l2 _ ⟨by simp, ?_⟩
      unfold addF; rw [if_pos rfl]
    · cases e2
/-- two lists joined, a list repeated: to be changed -/
theorem se_newadd (ha : SE X Xq a fa) (hb : SE X Xq b fb) : SE X Xq (.BinOp a .Add b pos) (fun e S => ((fa e S).bind fun x S1 => (fb e S1).bind fun y S2 => lift ((asW x S2).bind fun p => (asW y S2).bind fun q => (opB .add p q).map R.d) S2).bind newD) :=
  (pe_op op_cat ha hb).weak fun st H Q h => by
    obtain ⟨e, S, F, w, re, p⟩ := h
    refine ⟨e, S, F, w, re, p.bind.bind.imp fun x S1 F1 H1 w1 l1 p1 v hv => ?_⟩
    refine ⟨e, S1, F1, w1, re.le l1, p1.bind.imp fun y S2 F2 H2 w2 l2 p2 u hu => ?_⟩
    have hv := hv.le l2
    obtain ⟨r, er, q⟩ := Post.lift w2 p2
    rw [Option.bind_eq_some_iff] at er
    obtain ⟨p, e1, er⟩ := er
    rw [Option.bind_eq_some_iff] at er
    obtain ⟨q1, e2, er⟩ := er
    rw [Option.map_eq_some_iff] at er
    obtain ⟨z, e3, rfl⟩ := er
    have dv := dw_of w2 hv e1
    have du := dw_of w2 hu e2
    cases z with
    | list ds =>
      cases p <;> cases q1 <;> try (simp only [opB] at e3; first | cases e3; done | (split at e3 <;> cases e3; done))
      case list.list i j =>
        simp only [opB] at e3
        split at e3
        · rename_i hz; cases e3
          obtain ⟨a1, xs, rfl, ha, da⟩ := dv.asL
          obtain ⟨b1, ys, rfl, hb, db⟩ := du.asL
          refine ⟨a1, b1, xs, ys, rfl, rfl, ha, hb, by rw [da.length, db.length]; exact of_decide_eq_true hz, fun p hp => ?_⟩
          obtain ⟨w3, l3⟩ := w2.newCell hp (da.append db)
          exact Post.at_ (show Post X.K Xq H2 S2 F2 (.ok (R.ref S2.length) (S2 ++ [.lst (i ++ j)])) _ from q) w3 l3 _ ⟨by simp, by unfold addF; rw [if_pos rfl]⟩
        · cases e3
    | _ => exact q.elim
theorem se_newmul (ha : SE X Xq a fa) (hb : SE X Xq b fb) : SE X Xq (.BinOp a .Mult b pos) (fun e S => ((fa e S).bind fun x S1 => (fb e S1).bind fun y S2 => lift ((asW x S2).bind fun p => (asW y S2).bind fun q => (opB .mul p q).map R.d) S2).bind newD) :=
  (pe_op op_rep ha hb).weak fun st H Q h => by
    obtain ⟨e, S, F, w, re, p⟩ := h
    refine ⟨e, S, F, w, re, p.bind.bind.imp fun x S1 F1 H1 w1 l1 p1 v hv => ?_⟩
    refine ⟨e, S1, F1, w1, re.le l1, p1.bind.imp fun y S2 F2 H2 w2 l2 p2 u hu => ?_⟩
    have hv := hv.le l2
    obtain ⟨r, er, q⟩ := Post.lift w2 p2
    rw [Option.bind_eq_some_iff] at er
    obtain ⟨p, e1, er⟩ := er
    rw [Option.bind_eq_some_iff] at er
    obtain ⟨q1, e2, er⟩ := er
    rw [Option.map_eq_some_iff] at er
    obtain ⟨z, e3, rfl⟩ := er
    have dv := dw_of w2 hv e1
    have du := dw_of w2 hu e2
    cases z with
    | list ds =>
      cases p <;> cases q1 <;> try (simp only [opB] at e3; first | cases e3; done | (split at e3 <;> cases e3; done))
      case list.int i j =>
        simp only [opB] at e3
        split at e3
        · rename_i hz; cases e3
          simp only [Bool.and_eq_true, decide_eq_true_eq, lenFits] at hz
          cases du.int
          obtain ⟨a1, xs, rfl, ha, da⟩ := dv.asL
          refine ⟨a1, j, xs, rfl, rfl, ha, hz.1.1, hz.1.2, by rw [da.length]; exact hz.2, fun p hp => ?_⟩
          obtain ⟨w3, l3⟩ := w2.newCell hp (da.rep j.toNat)
          exact Post.at_ (show Post X.K Xq H2 S2 F2 (.ok (R.ref S2.length) (S2 ++ [.lst (List.replicate j.toNat i).flatten])) _ from q) w3 l3 _ ⟨by simp, by unfold addF; rw [if_pos rfl]⟩
        · cases e3
    | _ => exact q.elim
theorem se_edict : SE X Xq (.Dict [] [] pos) (fun _ S => .ok (.d (.dict [])) S) :=
  pe_dnewK.weak fun st H Q h => by
    obtain ⟨e, S, F, w, re, p⟩ := h
    intro d hd
    obtain ⟨w1, l1⟩ := w.alloc (o := .dK []) hd
    exact p.at_ w1 l1 _ (.dct upd_same (w.notLive hd))
end
end Sx
set_option Elab.async false
set_option linter.all false
set_option maxHeartbeats 1000000
/-! Sx, part F: built-in calls, isinstance, places, slices, methods of lists. -/
namespace Sx
open PySem PySem.Spec PyProof.Rows L2

/-! ### places -/
section
variable {K : PySem.W.Frag} {H : Hp} {A : Addr → Prop} {S : Store} {F : Nat → Addr}
theorem atI_da {vs : List V} {ds : List D} {i : Int} {d : D} (h : DaAll K H A vs ds) (e : L2.atI ds i = some d) : ∃ v, L2.atI vs i = some v ∧ Da K H A v d := by
  unfold L2.atI at e
  rw [Option.bind_eq_some_iff] at e
  obtain ⟨j, e1, e2⟩ := e
  obtain ⟨v, h1, h2⟩ := h.get e2
  refine ⟨v, ?_, h2⟩
  unfold L2.atI
  rw [h.length, e1]
  exact h1
theorem os_ix {w0 : World} (hl : LitOk K w0) : OpS K (fun x y H Q => rIx K x y H Q ∨ rIxD K w0 x y H Q) ixD := by
  intro p q z S F H v u Q w hv hu e k
  cases p <;> cases q <;> try (simp only [ixD] at e; cases e; done)
  case list.int xs i =>
    cases hu.int
    obtain ⟨a, ys, rfl, sq, da⟩ := hv.asL
    simp only [ixD] at e
    obtain ⟨x, e1, e2⟩ := atI_da da e
    exact .inl (.inl ⟨a, ys, i, x, rfl, rfl, sq, e1, k H x w .refl e2⟩)
  case tuple.int xs i =>
    cases hu.int
    obtain ⟨a, ys, rfl, sq, da⟩ := hv.asT
    simp only [ixD] at e
    obtain ⟨x, e1, e2⟩ := atI_da da e
    exact .inl (.inr (.inl ⟨a, ys, i, x, rfl, rfl, sq, e1, k H x w .refl e2⟩))
  case str.int z i =>
    cases hu.int; cases hv.str
    simp only [ixD] at e
    split at e
    · rename_i hz
      rw [Option.map_eq_some_iff] at e
      obtain ⟨c, e1, rfl⟩ := e
      exact .inl (.inr (.inr ⟨z, i, c, rfl, rfl, strFits_ok hz, e1, k H _ w .refl (.str _)⟩))
    · cases e
  case dict.str kvs x =>
    cases hu.str
    simp only [ixD] at e
    cases hv with
    | da hv =>
      cases hv with
      | dct _ _ => cases e
      | dctK h =>
        obtain ⟨es, n, D, hg⟩ := h.get hl x
        rcases hg with ⟨u0, v0, d, g1, g2, g3, g4⟩ | ⟨g1, g2⟩
        · rw [g3] at e; cases e
          exact .inr ⟨_, x, v0, rfl, rfl, ⟨es, n, u0, D.at_, D.lit, g1, g2⟩, k H v0 w .refl (DaK.da _ _ g4)⟩
        · rw [g2] at e; cases e
/-- a slice -/
theorem cutD_len (xs : List D) (lo hi : Option Int) : cutD xs lo hi = (xs.drop (HT.sIx xs.length 0 lo)).take (HT.sIx xs.length xs.length hi - HT.sIx xs.length 0 lo) := rfl
theorem cut_da {vs : List V} {ds : List D} {lo hi : Option Int} (h : DaAll K H A vs ds) : DaAll K H A (cutV vs lo hi) (cutD ds lo hi) := by
  unfold cutV cutD
  rw [h.length]
  exact (h.drop _).take _
theorem cut_whole {ds : List D} {lo hi : Option Int} (h : HT.sIx ds.length 0 lo = 0 ∧ HT.sIx ds.length ds.length hi = ds.length) : cutD ds lo hi = ds := by
  unfold cutD
  rw [h.1, h.2]
  simp
theorem sl_ok {p z : D} {lo hi : Option Int} {v : V} {Q : VK} (w : Wok K H S F) (hv : Dt K H (Live S F) v p) (e : slD p lo hi = some z) (k : ∀ H3 w, Wok K H3 S F → Wle H S F H3 S F → Da K H3 (Live S F) w z → Q w H3) :
    rSlA K v lo hi H Q ∨ rSlL K v lo hi H Q := by
  cases p <;> try (simp only [slD] at e; cases e; done)
  case tuple xs =>
    simp only [slD] at e; cases e
    cases hv with
    | da hv =>
      obtain ⟨a, ys, rfl, sq, da⟩ := hv.asT
      refine .inl ⟨a, ys, rfl, sq, fun hw => ?_, fun _ p hp => ?_⟩
      · rw [da.length] at hw
        rw [cut_whole hw] at k
        exact k H _ w .refl hv
      · obtain ⟨w1, l1⟩ := w.alloc (o := .tup (cutV ys lo hi)) hp
        exact k _ _ w1 l1 (.tup (.inl upd_same) (w.notLive hp) ((cut_da da).le l1))
  case list xs =>
    simp only [slD] at e; cases e
    obtain ⟨a, ys, rfl, sq, da⟩ := hv.asL
    refine .inr ⟨a, ys, rfl, sq, fun p hp => ?_⟩
    obtain ⟨w1, l1⟩ := w.alloc (o := .lst (cutV ys lo hi)) hp
    exact k _ _ w1 l1 (.lst upd_same (w.notLive hp) ((cut_da da).le l1))
end
section
variable {X : Cx} {Xq : XW} {a b c : Expr} {pos p2 : Pos} {fa fb fc : Fe} {es : List Expr} {fl : Ev → Store → Out (List R)}
theorem se_ix (hl : LitOk X.K X.w) (ha : SE X Xq a fa) (hb : SE X Xq b fb) (hs : PlainIx b) :
    SE X Xq (.Subscript a b pos) (fun e S => (fa e S).bind fun x S1 => (fb e S1).bind fun y S2 => lift ((asD x S2).bind fun p => (asD y S2).bind fun q => (ixD p q).map R.d) S2) :=
  (pe_ix (ix_seq.or ix_kdict) ha hb hs).weak fun st H Q h => RE.twoD (g := fun p q => (ixD p q).map R.d) h fun p q z S2 F2 H2 v u w hv hu e k => by
    cases e1 : ixD p q with
    | none => rw [e1] at e; cases e
    | some y =>
      rw [e1] at e; cases e
      exact os_ix hl p q y S2 F2 H2 v u Q w hv hu e1 fun H3 w' w3 l3 d3 => k H3 w3 l3 w' d3
def RO (K : PySem.W.Frag) (Xq : XW) (f : Ev → Store → Out (Option Int)) : L2.TO := fun st H Q => EX K Xq st H f fun o S' F' H' => Q o H'
abbrev SO (X : Cx) (Xq : XW) (e : Option Expr) (f : Ev → Store → Out (Option Int)) : Prop := PO X e (RO X.K Xq f)
theorem _root_.L2.PO.weak {X : Cx} {e : Option Expr} {t u : L2.TO} (h : PO X e t) (w : ∀ st H Q, u st H Q → t st H Q) : PO X e u := ⟨fun pins s st H Q I q => h.run pins s st H Q I (w st H Q q)⟩
theorem so_none : SO X Xq none (fun _ S => .ok none S) := po_none.weak fun st H Q ⟨e, S, F, w, re, p⟩ => p.ok w
theorem so_some (ha : SE X Xq a fa) : SO X Xq (some a) (fun e S => (fa e S).bind fun x S1 => lift ((intR x).map some) S1) :=
  (po_some ha).weak fun st H Q h => EX.e (g := fun e x S1 => lift ((intR x).map some) S1) h fun e x S1 F1 H1 v w re hv p => by
    obtain ⟨o, eo, q⟩ := Post.lift w p
    rw [Option.map_eq_some_iff] at eo
    obtain ⟨i, ei, rfl⟩ := eo
    cases x with
    | ref j => cases ei
    | d y =>
      cases y with
      | int n =>
        cases ei
        have hv' : Da X.K H1 (Live S1 F1) v (.int i) := hv
        cases hv'
        exact ⟨i, rfl, q⟩
      | _ => cases ei
theorem se_sl {lo hi : Option Expr} {fo fh : Ev → Store → Out (Option Int)} (ha : SE X Xq a fa) (hl : SO X Xq lo fo) (hh : SO X Xq hi fh) :
    SE X Xq (.Subscript a (.Slice lo hi none p2) pos) (fun e S => (fa e S).bind fun x S1 => (fo e S1).bind fun l S2 => (fh e S2).bind fun h S3 => lift ((asD x S3).bind fun p => (slD p l h).map R.d) S3) :=
  (pe_slice (sl_tupA.or sl_list) ha hl hh).weak fun st H Q h => by
    obtain ⟨e, S, F, w, re, p⟩ := h
    refine ⟨e, S, F, w, re, p.bind.imp fun x S1 F1 H1 w1 l1 p1 v hv => ?_⟩
    refine ⟨e, S1, F1, w1, re.le l1, p1.bind.imp fun lo' S2 F2 H2 w2 l2 p2 => ?_⟩
    refine ⟨e, S2, F2, w2, (re.le l1).le l2, p2.bind.imp fun hi' S3 F3 H3 w3 l3 p3 => ?_⟩
    obtain ⟨r, er, q⟩ := Post.lift w3 p3
    rw [er] at p3
    rw [Option.bind_eq_some_iff] at er
    obtain ⟨d, e1, e2⟩ := er
    rw [Option.map_eq_some_iff] at e2
    obtain ⟨z, e2, rfl⟩ := e2
    exact sl_ok w3 (dt_of w3 ((hv.le l2).le l3) e1) e2 fun H4 w' w4 l4 d4 => p3.at_ w4 l4 w' d4
/-! ### built-in calls -/
inductive DtAll (K : PySem.W.Frag) (H : Hp) (A : Addr → Prop) : List V → List D → Prop
  | nil : DtAll K H A [] []
  | cons {v : V} {vs : List V} {d : D} {ds : List D} : Dt K H A v d → DtAll K H A vs ds → DtAll K H A (v :: vs) (d :: ds)
theorem asDs_ok {K : PySem.W.Frag} {H : Hp} {S : Store} {F : Nat → Addr} (w : Wok K H S F) : ∀ {vs : List V} {rs : List R} {ds : List D}, RepAll K H S F vs rs → asDs S rs = some ds → DtAll K H (Live S F) vs ds
  | _, _, _, .nil, e => by cases e; exact .nil
  | _, _, _, .cons (r := r) (rs := rs) h t, e => by
    rw [asDs_cons, Option.bind_eq_some_iff] at e
    obtain ⟨x, e1, e2⟩ := e
    rw [Option.map_eq_some_iff] at e2
    obtain ⟨l, e2, rfl⟩ := e2
    exact .cons (dt_of w h e1) (asDs_ok w t e2)
abbrev RC := List V → Hp → VK → Prop
def CallS (K : PySem.W.Frag) (r : RC) (f : List D → Option D) : Prop :=
  ∀ ds z S F H vs Q, Wok K H S F → DtAll K H (Live S F) vs ds → f ds = some z → (∀ H3 w, Wok K H3 S F → Wle H S F H3 S F → Da K H3 (Live S F) w z → Q w H3) → r vs H Q
theorem RA.call {K : PySem.W.Frag} {st : L2.St} {H : Hp} {Q : VK} {r : RC} {f : List D → Option D} (hs : CallS K r f)
    (h : RE K Xq (fun e S => (fl e S).bind fun rs S1 => lift ((asDs S1 rs).bind fun ds => (f ds).map R.d) S1) st H Q) : RA K Xq fl st H fun vs H1 => r vs H1 Q :=
  EX.a (g := fun e rs S1 => lift ((asDs S1 rs).bind fun ds => (f ds).map R.d) S1) h fun e rs S1 F1 H1 vs w re hv p => by
    obtain ⟨r', er, q⟩ := Post.lift w p
    rw [er] at p
    rw [Option.bind_eq_some_iff] at er
    obtain ⟨ds, e1, e2⟩ := er
    rw [Option.map_eq_some_iff] at e2
    obtain ⟨z, e2, rfl⟩ := e2
    exact hs ds z S1 F1 H1 vs Q w (asDs_ok w hv e1) e2 fun H4 w' w4 l4 d4 => p.at_ w4 l4 w' d4
theorem se_blt {x : Str} {p : Pos} {id : String} {r : RC} {f : List D → Option D} (hc : CallR X (.builtin id) r) (hs : CallS X.K r f) (hg : Gl X x) (hm : X.mg x = none) (hv : bootBuiltins x = some (.builtin id)) (ha : SA X Xq (a :: es) fl)
    (hn : x ≠ "__name__") (hdb : (x == ("__debug__" : Str)) = false) (he : starEach (a :: es) X.env = (false, eval a X.env) :: starEach es X.env) (hpl : (backTo pos (starEach es X.env)).any (·.1) = false) :
    SE X Xq (.Call (.Name x p) (a :: es) [] pos) (fun e S => (fl e S).bind fun rs S1 => lift ((asDs S1 rs).bind fun ds => (f ds).map R.d) S1) :=
  (pe_callB hc hg hm hv ha hn hdb he hpl).weak fun st H Q h => RA.call hs h
theorem se_bty {x : Str} {p : Pos} {T : String} {r : RC} {f : List D → Option D} (hc : CallR X (.type T) r) (hs : CallS X.K r f) (hg : Gl X x) (hm : X.mg x = none) (hv : bootBuiltins x = some (.type T)) (ha : SA X Xq (a :: es) fl)
    (hn : x ≠ "__name__") (hdb : (x == ("__debug__" : Str)) = false) (he : starEach (a :: es) X.env = (false, eval a X.env) :: starEach es X.env) (hpl : (backTo pos (starEach es X.env)).any (·.1) = false) :
    SE X Xq (.Call (.Name x p) (a :: es) [] pos) (fun e S => (fl e S).bind fun rs S1 => lift ((asDs S1 rs).bind fun ds => (f ds).map R.d) S1) :=
  (pe_callTy hc hg hm hv ha hn hdb he hpl).weak fun st H Q h => RA.call hs h
theorem se_bfun {x : Str} {p : Pos} {id : String} {r : RC} {f : List D → Option D} (hc : CallR X (.builtin id) r) (hs : CallS X.K r f) (hg : Gl X x) (hm : X.mg x = some (.builtin id)) (ha : SA X Xq (a :: es) fl)
    (hdb : (x == ("__debug__" : Str)) = false) (he : starEach (a :: es) X.env = (false, eval a X.env) :: starEach es X.env) (hpl : (backTo pos (starEach es X.env)).any (·.1) = false) :
    SE X Xq (.Call (.Name x p) (a :: es) [] pos) (fun e S => (fl e S).bind fun rs S1 => lift ((asDs S1 rs).bind fun ds => (f ds).map R.d) S1) :=
  (pe_callBfun hc hg hm ha hdb he hpl).weak fun st H Q h => RA.call hs h
/-! the rules one by one -/
section
variable {K : PySem.W.Frag}
/-- one, two values -/
theorem dt1 {H : Hp} {A : Addr → Prop} {vs : List V} {d : D} (h : DtAll K H A vs [d]) : ∃ v, vs = [v] ∧ Dt K H A v d := by
  cases h with
  | cons h t => cases t; exact ⟨_, rfl, h⟩
theorem dt2 {H : Hp} {A : Addr → Prop} {vs : List V} {d e : D} (h : DtAll K H A vs [d, e]) : ∃ v u, vs = [v, u] ∧ Dt K H A v d ∧ Dt K H A u e := by
  cases h with
  | cons h t => cases t with
    | cons h2 t2 => cases t2; exact ⟨_, _, rfl, h, h2⟩
theorem cs_len : CallS K (fun xs H Q => ∃ x n, xs = [x] ∧ LenV K x H n ∧ Q (.int n) H) bLen := by
  intro ds z S F H vs Q w hv e k
  unfold bLen at e
  split at e
  · rename_i xs; cases e
    obtain ⟨v, rfl, h⟩ := dt1 hv
    obtain ⟨a, ys, rfl, sq, da⟩ := h.asL
    exact ⟨_, xs.length, rfl, .inl ⟨ys, sq, da.length.symm⟩, k H _ w .refl (.int _)⟩
  · rename_i xs; cases e
    obtain ⟨v, rfl, h⟩ := dt1 hv
    obtain ⟨a, ys, rfl, sq, da⟩ := h.asT
    exact ⟨_, xs.length, rfl, .inr ⟨ys, sq, da.length.symm⟩, k H _ w .refl (.int _)⟩
  · rename_i x
    split at e
    · rename_i hz; cases e
      obtain ⟨v, rfl, h⟩ := dt1 hv
      cases h.str
      exact ⟨_, x.length, rfl, ⟨strFits_ok hz, rfl⟩, k H _ w .refl (.int _)⟩
    · cases e
  · cases e
theorem cs_abs : CallS K (fun xs H Q => ∃ i, xs = [.int i] ∧ Q (.int (if i < 0 then -i else i)) H) bAbs := by
  intro ds z S F H vs Q w hv e k
  unfold bAbs at e
  split at e
  · rename_i i; cases e
    obtain ⟨v, rfl, h⟩ := dt1 hv
    cases h.int
    exact ⟨i, rfl, k H _ w .refl (.int _)⟩
  · cases e
theorem cs_max : CallS K (fun xs H Q => ∃ i j, xs = [.int i, .int j] ∧ Q (.int (if j > i then j else i)) H) bMax := by
  intro ds z S F H vs Q w hv e k
  unfold bMax at e
  split at e
  · rename_i i j; cases e
    obtain ⟨v, u, rfl, h, h2⟩ := dt2 hv
    cases h.int; cases h2.int
    exact ⟨i, j, rfl, k H _ w .refl (.int _)⟩
  · cases e
theorem cs_min : CallS K (fun xs H Q => ∃ i j, xs = [.int i, .int j] ∧ Q (.int (if j < i then j else i)) H) bMin := by
  intro ds z S F H vs Q w hv e k
  unfold bMin at e
  split at e
  · rename_i i j; cases e
    obtain ⟨v, u, rfl, h, h2⟩ := dt2 hv
    cases h.int; cases h2.int
    exact ⟨i, j, rfl, k H _ w .refl (.int _)⟩
  · cases e
theorem cs_int : CallS K (fun xs H Q => (∃ i, xs = [.int i] ∧ Q (.int i) H) ∨ ∃ k, xs = [.bl k] ∧ Q (.int (if k then 1 else 0)) H) bInt := by
  intro ds z S F H vs Q w hv e k
  unfold bInt at e
  split at e
  · rename_i i; cases e
    obtain ⟨v, rfl, h⟩ := dt1 hv
    cases h.int
    exact .inl ⟨i, rfl, k H _ w .refl (.int _)⟩
  · rename_i i; cases e
    obtain ⟨v, rfl, h⟩ := dt1 hv
    cases h.bl
    exact .inr ⟨i, rfl, k H _ w .refl (.int _)⟩
  · cases e
theorem cs_divmod : CallS K (fun xs H Q => ∃ i j, xs = [.int i, .int j] ∧ CDivP i j ∧ ∀ p, H p = none → Q (.ref p) (upd H p (.tup [.int (i / j), .int (i % j)]))) bDivmod := by
  intro ds z S F H vs Q w hv e k
  unfold bDivmod at e
  split at e
  · rename_i i j
    split at e
    · rename_i hz; cases e
      simp only [Bool.and_eq_true, decide_eq_true_eq] at hz
      obtain ⟨v, u, rfl, h, h2⟩ := dt2 hv
      cases h.int; cases h2.int
      refine ⟨i, j, rfl, ⟨hz.1, PyProof.noPylong_of_log2 hz.2⟩, fun p hp => ?_⟩
      obtain ⟨w1, l1⟩ := w.alloc (o := .tup [.int (i / j), .int (i % j)]) hp
      exact k _ _ w1 l1 (.tup (.inl upd_same) (w.notLive hp) (.cons (.int _) (.cons (.int _) .nil)))
    · cases e
  · cases e
theorem bools_ok {H : Hp} {A : Addr → Prop} : ∀ {vs : List V} {ds : List D} {bs : List Bool}, DaAll K H A vs ds → bools ds = some bs → vs = bs.map V.bl
  | _, _, _, .nil, e => by cases e; rfl
  | _, _, _, .cons (d := .bool b) h t, e => by
    simp only [bools, Option.map_eq_some_iff] at e
    obtain ⟨l, e1, rfl⟩ := e
    cases h
    rw [bools_ok t e1]; rfl
  | _, _, _, .cons (d := .none) h t, e => by cases e
  | _, _, _, .cons (d := .int _) h t, e => by cases e
  | _, _, _, .cons (d := .str _) h t, e => by cases e
  | _, _, _, .cons (d := .list _) h t, e => by cases e
  | _, _, _, .cons (d := .tuple _) h t, e => by cases e
  | _, _, _, .cons (d := .dict _) h t, e => by cases e
theorem intsD_ok {H : Hp} {A : Addr → Prop} : ∀ {vs : List V} {ds : List D} {bs : List Int}, DaAll K H A vs ds → intsD ds = some bs → vs = bs.map V.int
  | _, _, _, .nil, e => by cases e; rfl
  | _, _, _, .cons (d := .int b) h t, e => by
    simp only [intsD, Option.map_eq_some_iff] at e
    obtain ⟨l, e1, rfl⟩ := e
    cases h
    rw [intsD_ok t e1]; rfl
  | _, _, _, .cons (d := .none) h t, e => by cases e
  | _, _, _, .cons (d := .bool _) h t, e => by cases e
  | _, _, _, .cons (d := .str _) h t, e => by cases e
  | _, _, _, .cons (d := .list _) h t, e => by cases e
  | _, _, _, .cons (d := .tuple _) h t, e => by cases e
  | _, _, _, .cons (d := .dict _) h t, e => by cases e
theorem cs_all : CallS K (rAll K) bAll := by
  intro ds z S F H vs Q w hv e k
  unfold bAll at e
  split at e
  · rename_i xs
    rw [Option.map_eq_some_iff] at e
    obtain ⟨bs, e1, rfl⟩ := e
    obtain ⟨v, rfl, h⟩ := dt1 hv
    obtain ⟨a, ys, rfl, sq, da⟩ := h.asL
    rw [bools_ok da e1] at sq
    exact ⟨a, bs, rfl, sq, k H _ w .refl (.bl _)⟩
  · cases e
theorem cs_any : CallS K (rAny K) bAny := by
  intro ds z S F H vs Q w hv e k
  unfold bAny at e
  split at e
  · rename_i xs
    rw [Option.map_eq_some_iff] at e
    obtain ⟨bs, e1, rfl⟩ := e
    obtain ⟨v, rfl, h⟩ := dt1 hv
    obtain ⟨a, ys, rfl, sq, da⟩ := h.asL
    rw [bools_ok da e1] at sq
    exact ⟨a, bs, rfl, sq, k H _ w .refl (.bl _)⟩
  · cases e
theorem cs_sum : CallS K (rSum K) bSum := by
  intro ds z S F H vs Q w hv e k
  unfold bSum at e
  split at e
  · rename_i xs
    rw [Option.map_eq_some_iff] at e
    obtain ⟨bs, e1, rfl⟩ := e
    obtain ⟨v, rfl, h⟩ := dt1 hv
    obtain ⟨a, ys, rfl, sq, da⟩ := h.asL
    rw [intsD_ok da e1] at sq
    exact ⟨a, bs, rfl, sq, k H _ w .refl (.int _)⟩
  · cases e
theorem cs_tuple : CallS K (fun xs H Q => ∃ p ys, xs = [.ref p] ∧ ((SqL K H p ys ∧ ∀ l, H l = none → Q (.ref l) (upd H l (.tup ys))) ∨ (SqT K H p ys ∧ Q (.ref p) H))) bTuple := by
  intro ds z S F H vs Q w hv e k
  unfold bTuple at e
  split at e
  · rename_i xs; cases e
    obtain ⟨v, rfl, h⟩ := dt1 hv
    obtain ⟨a, ys, rfl, sq, da⟩ := h.asL
    refine ⟨a, ys, rfl, .inl ⟨sq, fun l hl => ?_⟩⟩
    obtain ⟨w1, l1⟩ := w.alloc (o := .tup ys) hl
    exact k _ _ w1 l1 (.tup (.inl upd_same) (w.notLive hl) (da.le l1))
  · rename_i xs; cases e
    obtain ⟨v, rfl, h⟩ := dt1 hv
    cases h with
    | da h =>
      obtain ⟨a, ys, rfl, sq, da⟩ := h.asT
      exact ⟨a, ys, rfl, .inr ⟨sq, k H _ w .refl h⟩⟩
  · cases e
theorem cs_list : CallS K (fun xs H Q => ∃ p ys, xs = [.ref p] ∧ (SqL K H p ys ∨ SqT K H p ys) ∧ ∀ l, H l = none → Q (.ref l) (upd H l (.lst ys))) bList := by
  intro ds z S F H vs Q w hv e k
  unfold bList at e
  split at e
  · rename_i xs; cases e
    obtain ⟨v, rfl, h⟩ := dt1 hv
    obtain ⟨a, ys, rfl, sq, da⟩ := h.asL
    refine ⟨a, ys, rfl, .inl sq, fun l hl => ?_⟩
    obtain ⟨w1, l1⟩ := w.alloc (o := .lst ys) hl
    exact k _ _ w1 l1 (.lst upd_same (w.notLive hl) (da.le l1))
  · rename_i xs; cases e
    obtain ⟨v, rfl, h⟩ := dt1 hv
    obtain ⟨a, ys, rfl, sq, da⟩ := h.asT
    refine ⟨a, ys, rfl, .inr sq, fun l hl => ?_⟩
    obtain ⟨w1, l1⟩ := w.alloc (o := .lst ys) hl
    exact k _ _ w1 l1 (.lst upd_same (w.notLive hl) (da.le l1))
  · cases e
/-- list(..), to be changed -/
theorem ra_newlist {K : PySem.W.Frag} {Xq : XW} {fl : Ev → Store → Out (List R)} {st : L2.St} {H : Hp} {Q : VK} (h : RE K Xq (fun e S => ((fl e S).bind fun rs S1 => lift ((asDs S1 rs).bind fun ds => (bList ds).map R.d) S1).bind newD) st H Q) :
    RA K Xq fl st H fun xs H1 => ∃ p ys, xs = [.ref p] ∧ (SqL K H1 p ys ∨ SqT K H1 p ys) ∧ ∀ l, H1 l = none → Q (.ref l) (upd H1 l (.lst ys)) := by
  obtain ⟨e, S, F, w, re, p⟩ := h
  refine ⟨e, S, F, w, re, p.bind.bind.imp fun rs S1 F1 H1 w1 l1 p1 vs hv => ?_⟩
  obtain ⟨r, er, q⟩ := Post.lift w1 p1
  rw [Option.bind_eq_some_iff] at er
  obtain ⟨ds, e1, e2⟩ := er
  rw [Option.map_eq_some_iff] at e2
  obtain ⟨z, e2, rfl⟩ := e2
  have dv := asDs_ok w1 hv e1
  have fin : ∀ {a : Addr} {ys : List V} {xs : List D}, DaAll K H1 (Live S1 F1) ys xs → z = .list xs → ∀ l, H1 l = none → Q (.ref l) (upd H1 l (.lst ys)) := fun {a ys xs} da ez l hl => by
    subst ez
    obtain ⟨w2, l2⟩ := w1.newCell hl da
    have q : Post K Xq H1 S1 F1 (.ok (R.ref S1.length) (S1 ++ [.lst xs])) _ := q
    exact q.at_ w2 l2 _ ⟨by simp, by unfold addF; rw [if_pos rfl]⟩
  unfold bList at e2
  split at e2
  · rename_i xs; cases e2
    obtain ⟨v, rfl, h⟩ := dt1 dv
    obtain ⟨a, ys, rfl, sq, da⟩ := h.asL
    exact ⟨a, ys, rfl, .inl sq, fin (a := a) da rfl⟩
  · rename_i xs; cases e2
    obtain ⟨v, rfl, h⟩ := dt1 dv
    obtain ⟨a, ys, rfl, sq, da⟩ := h.asT
    exact ⟨a, ys, rfl, .inr sq, fin (a := a) da rfl⟩
  · cases e2
theorem cs_gcd : CallS K rGcd bGcd := by
  intro ds z S F H vs Q w hv e k
  unfold bGcd at e
  split at e
  · rename_i i j; cases e
    obtain ⟨v, u, rfl, h, h2⟩ := dt2 hv
    cases h.int; cases h2.int
    exact ⟨i, j, rfl, k H _ w .refl (.int _)⟩
  · cases e
/-- repr of data -/
def rRepr (K : PySem.W.Frag) : RC := fun vs H Q => ∃ v x, vs = [v] ∧ Dp K H v x ∧ reprOk x = true ∧ Q (.str x.shown) H
theorem noDict_of {d : D} (h : d.canLay0 = true) : d.hasDict = false := PyData.hasDict_of_canLay d h
theorem cs_repr : CallS K (rRepr K) bRepr := by
  intro ds z S F H vs Q w hv e k
  unfold bRepr at e
  split at e
  · rename_i x
    split at e
    · rename_i hz; cases e
      obtain ⟨v, rfl, h⟩ := dt1 hv
      have hz' := hz
      simp only [reprOk, Bool.and_eq_true] at hz'
      exact ⟨v, x, rfl, h.dp hz'.1.1.2, hz, k H _ w .refl (.str _)⟩
    · cases e
  · cases e
end
theorem call_reprD (hg : X.A.guards = some []) (hu : X.A.units + 100 < cLine) : CallR X (.builtin "repr") (rRepr X.K) := by
  intro pins s st H xs us Q I r h
  obtain ⟨v, x, rfl, d, ok, q⟩ := h
  obtain ⟨u, rfl, ru⟩ := vals1 r
  simp only [reprOk, Bool.and_eq_true, decide_eq_true_eq] at ok
  obtain ⟨⟨⟨o1, o2⟩, o3⟩, o4⟩ := ok
  obtain ⟨as, rd⟩ := Dp.reads I x v u d ru
  have fin : ∀ (h' : Heap) (t : Tok) (tk : Nat), (∀ b o, s.heap.get? b = some o → h'.get? b = some o) → EP X pins st Q (.str x.shown t) { s with heap := h', toks := tk } := fun h' t tk kp =>
    ⟨.str x.shown, H, I.kept kp, ⟨t, rfl⟩, q⟩
  have f0 : ∀ (t : Tok) (tk : Nat), EP X pins st Q (.str x.shown t) { s with toks := tk } := fun t tk => fin s.heap t tk fun _ _ e => e
  cases x with
  | none => cases rd; exact PySem.P.repr_of_none (f0 _ _)
  | bool b => cases rd; exact PySem.P.repr_of_bool (by have := f0 s.toks (s.toks + 1); simpa [PyData.shown] using this)
  | int i =>
    cases rd
    exact PySem.P.repr_of_int (by simpa [PyData.showable] using o1) (by have := f0 s.toks (s.toks + 1); simpa [PyData.shown] using this)
  | str z =>
    cases rd
    exact PySem.P.repr_of_str (by have := f0 s.toks (s.toks + 1); simpa [PyData.shown] using this) (by simpa [PyData.shown] using o4)
  | list ds =>
    cases d with
    | lst sq da =>
      cases (show u = Value.ref _ from ru)
      exact repr_of_reads' rd o1 (fun z => by rw [noDict_of o2] at z; cases z) hg (by omega) (fun _ _ e => e) (fun h' t tk kp => fin h' t tk kp) o4
  | tuple ds =>
    cases d with
    | tup sq da =>
      cases (show u = Value.ref _ from ru)
      exact repr_of_reads' rd o1 (fun z => by rw [noDict_of o2] at z; cases z) hg (by omega) (fun _ _ e => e) (fun h' t tk kp => fin h' t tk kp) o4
  | dict kvs => cases d
end
end Sx
set_option Elab.async false
set_option linter.all false
set_option maxHeartbeats 1000000
/-! Sx, part F, continued: s[::-1]. -/
namespace HT
open PySem PySem.Spec PyProof.Rows L2
section
variable {prog : Program} {w : World} {A : Around} {E : Value → Shared → Prop} {s : Shared}
theorem pick_back (xs : List Value) : (List.range xs.length).filterMap (fun (k : Nat) => xs.toArray[(((xs.length : Int) - 1) + (k : Int) * (-1)).toNat]?) = xs.reverse := by
  have e : ∀ k, k < xs.length → xs.toArray[(((xs.length : Int) - 1) + (k : Int) * (-1)).toNat]? = xs.reverse[k]? := fun k hk => by
    have : (((xs.length : Int) - 1) + (k : Int) * (-1)).toNat = xs.length - 1 - k := by omega
    rw [this, List.getElem?_toArray, List.getElem?_reverse hk]
  have : (List.range xs.length).filterMap (fun (k : Nat) => xs.toArray[(((xs.length : Int) - 1) + (k : Int) * (-1)).toNat]?) = (List.range xs.reverse.length).filterMap fun k => xs.reverse[k]? := by
    rw [List.length_reverse]
    have cg : ∀ l : List Nat, (∀ k ∈ l, k < xs.length) → l.filterMap (fun (k : Nat) => xs.toArray[(((xs.length : Int) - 1) + (k : Int) * (-1)).toNat]?) = l.filterMap fun k => xs.reverse[k]? := by
      intro l
      induction l with
      | nil => intro _; rfl
      | cons y l ih =>
        intro hy
        rw [List.filterMap_cons, List.filterMap_cons, e y (hy y List.mem_cons_self), ih fun k hk => hy k (List.mem_cons_of_mem _ hk)]
    exact cg _ fun k hk => List.mem_range.mp hk
  rw [this]
  generalize xs.reverse = ys
  induction ys with
  | nil => rfl
  | cons y ys ih =>
    rw [List.length_cons, List.range_succ_eq_map, List.filterMap_cons]
    simp only [List.getElem?_cons_zero, List.filterMap_map]
    congr 1
theorem sliceApplied_back {sl : Addr} {vl vu vs : Value} {n : Nat} {Q : Int × Int × Nat → Shared → Prop} (hs : s.heap.IsSliceOf sl vl vu vs) (pl : IsPart vl none) (pu : IsPart vu none) (ps : IsPart vs (some (-1))) (q : Q (((n : Int) - 1), -1, n) s) :
    wpAny (model prog w) A (Builtin.Slice.sliceApplied (.ref sl) (pure (n : Int))) Q E s := by
  obtain ⟨os, hos, hcs, hds⟩ := id hs
  unfold Builtin.Slice.sliceApplied Builtin.Slice.sliceFields
  refine wpAny_bind (wpAny_bind (wpAny_field hos hds (x := vl) rfl (wpAny_bind (wpAny_field hos hds (x := vu) rfl (wpAny_bind (wpAny_field hos hds (x := vs) rfl (wpAny_pure ?_)))))))
  refine wpAny_bind (slicePart_ ps ?_)
  show wpAny _ _ (if ((-1 : Int) == 0) = true then _ else _) _ _ s
  rw [if_neg (by decide)]
  refine wpAny_bind (slicePart_ pl (wpAny_bind (slicePart_ pu (wpAny_bind (wpAny_pure ?_)))))
  refine wpAny_pure ?_
  have : Builtin.Slice.slicePlaces ((n : Int) - 1) (-1) (-1) = n := by
    unfold Builtin.Slice.slicePlaces
    rw [if_neg (by decide)]
    by_cases h0 : n = 0
    · rw [h0]; rfl
    · rw [if_pos (by omega), show (- -1 : Int) = 1 by rfl, Int.ediv_one]
      omega
  have e : (((n : Int) - 1), (-1 : Int), n) = (((n : Int) - 1), -1, Builtin.Slice.slicePlaces ((n : Int) - 1) (-1) (-1)) := by rw [this]
  rw [e] at q
  exact q
theorem getItem_tuple_back {t sl : Addr} {items : List Value} {vl vu vs : Value} {Q : Value → Shared → Prop} (ht : IsTup s.heap t items.toArray) (hs : s.heap.IsSliceOf sl vl vu vs) (pl : IsPart vl none) (pu : IsPart vu none) (ps : IsPart vs (some (-1)))
    (h : Q (.ref s.heap.objs.size) { s with heap := s.heap.push { cls := .type "tuple", data := .seq items.reverse.toArray } })
    (hsz : items.length ≤ sizeLine) : wpAny (model prog w) A (getItem (.ref t) (.ref sl)) Q E s := by
  have htake : sizeOk (.seq items.reverse.toArray) := by
    show items.reverse.toArray.size ≤ sizeLine
    rw [List.size_toArray, List.length_reverse]
    exact hsz
  obtain ⟨os, hos, hcs, hds⟩ := id hs
  have hTs : s.TypeIs (.ref sl) "slice" := ⟨os, hos, hcs⟩
  unfold getItem
  try with_reducible refine wpAny_holding ?_
  first | refine wpAny_bind (wpAny_pure ?_) | skip
  refine wpAny_bind (wpAny_sequenceKey ht.typeIs (by decide) ?_)
  refine wpAny_bind (wpAny_callSpecial?_slot (name := Str.ofString "__getitem__") ht.typeIs PyProof.Rows.slot_tuple_getitem
    (wpAny_call_entry PyProof.Rows.slot_tuple_getitem ht.typeIs entry_tuple_getitem ?_ (args_tuple_getitem _ _)))
  show wpAny _ _ (Builtin.Tuple.tupleItemsOf (.ref t) >>= _) _ _ s
  refine wpAny_bind (tupleItemsOf_ ht ?_)
  refine wpAny_bind (wpAny_typeOf hTs ?_)
  rw [if_pos (by decide)]
  refine wpAny_bind (sliceApplied_back (n := items.length) hs pl pu ps ?_)
  have hno : ¬ ((((items.length : Int) - 1) == 0 && (-1 : Int) == 1 && items.length == items.toArray.size) = true) := by
    intro q
    rw [Bool.and_eq_true, Bool.and_eq_true] at q
    exact absurd (eq_of_beq q.1.2) (by decide)
  show wpAny _ _ (if (((items.length : Int) - 1) == 0 && (-1 : Int) == 1 && items.length == items.toArray.size) = true then _ else _) _ _ s
  rw [if_neg hno, pick_back]
  first
    | exact wpAny_bind (m := Builtin.Tuple.tupleExact _) (wpAny_newObj_type (wpAny_pure ⟨_, rfl, wpAny_pure h⟩) htake)
    | exact wpAny_bind (m := Builtin.Tuple.tupleExact _) (wpAny_newObj_type (wpAny_bind (wpAny_pure (wpAny_pure ⟨_, rfl, wpAny_pure h⟩))) htake)
    | exact wpAny_bind (wpAny_bind (m := Builtin.Tuple.tupleExact _) (wpAny_newObj_type (wpAny_pure (wpAny_pure ⟨_, rfl, wpAny_pure h⟩)) htake))
    | exact wpAny_bind (wpAny_bind (m := Builtin.Tuple.tupleExact _) (wpAny_newObj_type (wpAny_pure ⟨_, rfl, wpAny_pure h⟩) htake))
end
end HT
namespace Sx
open PySem PySem.Spec PyProof.Rows L2
def tRevA (K : PySem.W.Frag) (te : TE) : TE := fun σ H Q => te σ H fun x H1 => ∃ a xs, x = .ref a ∧ ((SqL K H1 a xs ∧ ∀ p, H1 p = none → Q (.ref p) (upd H1 p (.lst xs.reverse))) ∨ (SqT K H1 a xs ∧ ∀ p, H1 p = none → Q (.ref p) (upd H1 p (.tup xs.reverse))))
theorem pe_revA {X : Cx} {e : Expr} {te : TE} {k : Nat} {p1 p2 p3 pos : Pos} (he : PE X e te) : PE X (.Subscript e (.Slice none none (some (.UnaryOp .USub (.Constant (.int 1) k p1) p2)) p3) pos) (tRevA X.K te) := by
  refine ⟨fun pins s σ H Q I h => ?_⟩
  refine Subscript_ (thn (he.run pins s σ H _ I h) fun v s1 ⟨x, H1, I1, r1, q1⟩ => ?_)
  obtain ⟨a, xs, ex, hx⟩ := q1
  subst ex
  cases r1
  have hst : PO X (some (.UnaryOp .USub (.Constant (.int 1) k p1) p2)) (tPart (tUn (rU fun i => .int (-i)) (tC (.int 1)))) := po_some (pe_un un_neg pe_int)
  refine wpAny_Slice (thn (po_none.run pins s1 σ H1 (fun o H2 => o = none ∧ H2 = H1) I1 ⟨rfl, rfl⟩) fun vl s2 ⟨l, H2, I2, pl, el, e2⟩ => ?_)
  subst el e2
  refine thn (po_none.run pins s2 σ H2 (fun o H3 => o = none ∧ H3 = H2) I2 ⟨rfl, rfl⟩) fun vu s3 ⟨u, H3, I3, pu, eu, e3⟩ => ?_
  subst eu e3
  refine thn (hst.run pins s3 σ H3 (fun o H4 => o = some (-1) ∧ H4 = H3) I3 ⟨1, rfl, -1, rfl, rfl, rfl⟩) fun vs s4 ⟨o, H4, I4, ps, eo, e4⟩ => ?_
  subst eo e4
  have I5 : Inv X pins σ H4 { s4 with heap := s4.heap.push { cls := .type "slice", data := .fields #[vl, vu, vs] } } := I4.kept (t' := s4.toks) fun b ob q => Heap.get?_push_of_some _ q
  rcases hx with ⟨hx, q⟩ | ⟨hx, q⟩
  · obtain ⟨its, r, ht, hz⟩ := I5.list hx
    have hlen := r.length
    show wpAny (model X.prog X.w) X.A (subscriptTail e (.Slice none none (some (.UnaryOp .USub (.Constant (.int 1) k p1) p2)) p3) (.ref a) (.ref s4.heap.objs.size)) (EP X pins σ Q) X.xe { s4 with heap := s4.heap.push { cls := .type "slice", data := .fields #[vl, vu, vs] } }
    refine tail_any (ops := [.ref a, .ref s4.heap.objs.size]) ht.isList.typeIs (PySem.slot_list_getitem.lookup) ?_ (by with_unfolding_all rfl)
    refine wpAny_getItem_list_slice ht.isList (Heap.IsSliceOf.new _ vl vu vs) pl pu ps (by decide) ?_ (by rw [List.size_toArray]; omega)
    rw [PySem.W.krv_pick]
    refine ⟨.ref _, _, I5.laid (t' := s4.toks) (o := .lst xs.reverse) (fun b ob q => Heap.get?_push_of_some _ q) (Nat.le_refl _) ?_, rfl, q _ (I5.hok.fresh (Nat.le_refl _))⟩
    exact ⟨by rw [List.length_reverse]; exact hz, _, 0, r.reverse, Heap.get?_push_size _ rfl⟩
  · obtain ⟨its, r, ht, hz⟩ := I5.tuple hx
    have hlen := r.length
    show wpAny (model X.prog X.w) X.A (subscriptTail e (.Slice none none (some (.UnaryOp .USub (.Constant (.int 1) k p1) p2)) p3) (.ref a) (.ref s4.heap.objs.size)) (EP X pins σ Q) X.xe { s4 with heap := s4.heap.push { cls := .type "slice", data := .fields #[vl, vu, vs] } }
    refine tail_any (ops := [.ref a, .ref s4.heap.objs.size]) ht.typeIs (PyProof.Rows.slot_tuple_getitem.lookup) ?_ (by with_unfolding_all rfl)
    refine HT.getItem_tuple_back ht (Heap.IsSliceOf.new _ vl vu vs) pl pu ps ?_ (by omega)
    refine ⟨.ref _, _, I5.laid (t' := s4.toks) (o := .tup xs.reverse) (fun b ob q => Heap.get?_push_of_some _ q) (Nat.le_refl _) ?_, rfl, q _ (I5.hok.fresh (Nat.le_refl _))⟩
    exact ⟨by rw [List.length_reverse]; exact hz, _, r.reverse, IsTup.new _ _⟩
section
variable {K : PySem.W.Frag} {H : Hp} {S : Store} {F : Nat → Addr}
theorem rev_ok {p z : D} {v : V} {Q : VK} (w : Wok K H S F) (hv : Dt K H (Live S F) v p) (e : revD p = some z) (k : ∀ H3 w, Wok K H3 S F → Wle H S F H3 S F → Da K H3 (Live S F) w z → Q w H3) :
    ∃ a xs, v = .ref a ∧ ((SqL K H a xs ∧ ∀ p, H p = none → Q (.ref p) (upd H p (.lst xs.reverse))) ∨ (SqT K H a xs ∧ ∀ p, H p = none → Q (.ref p) (upd H p (.tup xs.reverse)))) := by
  cases p <;> try (simp only [revD] at e; cases e; done)
  case tuple xs =>
    simp only [revD] at e; cases e
    cases hv with
    | da hv =>
      obtain ⟨a, ys, rfl, sq, da⟩ := hv.asT
      refine ⟨a, ys, rfl, .inr ⟨sq, fun p hp => ?_⟩⟩
      obtain ⟨w1, l1⟩ := w.alloc (o := .tup ys.reverse) hp
      exact k _ _ w1 l1 (.tup (.inl upd_same) (w.notLive hp) (da.reverse.le l1))
  case list xs =>
    simp only [revD] at e; cases e
    obtain ⟨a, ys, rfl, sq, da⟩ := hv.asL
    refine ⟨a, ys, rfl, .inl ⟨sq, fun p hp => ?_⟩⟩
    obtain ⟨w1, l1⟩ := w.alloc (o := .lst ys.reverse) hp
    exact k _ _ w1 l1 (.lst upd_same (w.notLive hp) (da.reverse.le l1))
end
section
variable {X : Cx} {Xq : XW} {a : Expr} {pos p1 p2 p3 : Pos} {n : Nat} {fa : Fe}
theorem se_rev (ha : SE X Xq a fa) : SE X Xq (.Subscript a (.Slice none none (some (.UnaryOp .USub (.Constant (.int 1) n p1) p2)) p3) pos) (fun e S => (fa e S).bind fun x S1 => lift ((asD x S1).bind fun p => (revD p).map R.d) S1) :=
  (pe_revA ha).weak fun st H Q h => by
    obtain ⟨e, S, F, w, re, p⟩ := h
    refine ⟨e, S, F, w, re, p.bind.imp fun x S1 F1 H1 w1 l1 p1 v hv => ?_⟩
    obtain ⟨r, er, q⟩ := Post.lift w1 p1
    rw [er] at p1
    rw [Option.bind_eq_some_iff] at er
    obtain ⟨d, e1, e2⟩ := er
    rw [Option.map_eq_some_iff] at e2
    obtain ⟨z, e2, rfl⟩ := e2
    exact rev_ok w1 (dt_of w1 hv e1) e2 fun H4 w' w4 l4 d4 => p1.at_ w4 l4 w' d4
end
end Sx
set_option Elab.async false
set_option linter.all false
set_option maxHeartbeats 1000000
/-! Sx, part G: methods of lists, isinstance, targets, calls of defs. -/
namespace Sx
open PySem PySem.Spec PyProof.Rows L2
section
variable {X : Cx} {Xq : XW} {a b c : Expr} {pos p2 apos : Pos} {fa fb fc : Fe} {es : List Expr} {fl : Ev → Store → Out (List R)}
/-! ### append, pop -/
theorem cell_at {K : PySem.W.Frag} {H : Hp} {S : Store} {F : Nat → Addr} {v : V} {x : R} {ds : List D} (w : Wok K H S F) (hv : RepR K H S F v x) (e : cellOf x S = some ds) :
    ∃ i vs, x = .ref i ∧ S[i]? = some (.lst ds) ∧ v = .ref (F i) ∧ H (F i) = some (.lst vs) ∧ DaAll K H (Live S F) vs ds := by
  cases x with
  | d y => cases e
  | ref i =>
    unfold cellOf at e
    dsimp only at e
    cases q : S[i]? with
    | none => rw [q] at e; cases e
    | some cl =>
      rw [q] at e
      cases cl with
      | gone => cases e
      | ro _ => cases e
      | lst es =>
        cases e
        obtain ⟨vs, h1, h2⟩ := w.cell i _ q
        exact ⟨i, vs, rfl, q, hv.2, h1, h2⟩
theorem se_app (ha : SE X Xq a fa) (hb : SE X Xq b fb) (hbase : attributeBase a "append" X.env (eval a X.env) = eval a X.env) (hline : (apos.endLine == pos.line) = true) (hs : starEach [b] X.env = [(false, eval b X.env)]) :
    SE X Xq (.Call (.Attribute a "append" apos) [b] [] pos) (fun e S => (fa e S).bind fun x S1 => (lift (cellOf x S1) S1).bind fun _ S2 => (fb e S2).bind fun y S3 => appD x y S3) :=
  (pe_bm PySem.F.plainAttrs_list PySem.F.slot_list_append PySem.F.type_list_append mt_append ha (pa_cons hb pa_nil (by rw [hs]; rfl)) hbase (by rw [hs]; rfl) hline (by rw [hs]; rfl) rfl).weak fun st H Q h =>
    EX.e (g := fun e x S1 => (lift (cellOf x S1) S1).bind fun _ S2 => (fb e S2).bind fun y S3 => appD x y S3) h fun e x S1 F1 H1 v w re hv p => by
      obtain ⟨ds, ec, p2⟩ := Post.lift w p.bind
      obtain ⟨i, vs, rfl, hS, rfl, hH, hd⟩ := cell_at w hv ec
      refine ⟨.inl ⟨rfl, vs, SqL.of hH⟩, e, S1, F1, w, re, p2.bind.imp fun y S2 F2 H2 w2 l2 p3 u hu => ?_⟩
      cases y with
      | ref j => exact p3.elim
      | d y =>
        unfold appD at p3
        dsimp only at p3
        cases q : S2[i]? with
        | none => rw [q] at p3; exact p3.elim
        | some cl =>
          rw [q] at p3
          cases cl with
          | gone => exact p3.elim
          | ro _ => exact p3.elim
          | lst es =>
            dsimp only at p3
            split at p3
            · rename_i hz
              obtain ⟨ws, h1, h2⟩ := w2.cell i _ q
              have ei : F2 i = F1 i := l2.adr i hv.1
              refine ⟨F1 i, ws, u, rfl, rfl, by rw [← ei]; exact h1, by rw [h2.length]; exact of_decide_eq_true hz, ?_⟩
              obtain ⟨w3, l3⟩ := w2.setCell (ws := ws ++ [u]) q (h2.append (.cons hu .nil))
              rw [ei] at w3 l3
              exact p3.at_ w3 l3 _ .non
            · exact p3.elim
theorem se_pop (ha : SE X Xq a fa) (hbase : attributeBase a "pop" X.env (eval a X.env) = eval a X.env) (hline : (apos.endLine == pos.line) = true) :
    SE X Xq (.Call (.Attribute a "pop" apos) [] [] pos) (fun e S => (fa e S).bind popD) :=
  (pe_bm0 PySem.F.plainAttrs_list PySem.F.slot_list_pop PySem.F.type_list_pop mt_pop ha hbase hline).weak fun st H Q h =>
    EX.e (g := fun _ => popD) h fun e x S1 F1 H1 v w re hv p => by
      cases x with
      | d y => exact p.elim
      | ref i =>
        unfold popD at p
        dsimp only at p
        cases q : S1[i]? with
        | none => rw [q] at p; exact p.elim
        | some cl =>
          rw [q] at p
          cases cl with
          | gone => exact p.elim
          | ro _ => exact p.elim
          | lst es =>
            dsimp only at p
            obtain ⟨ws, h1, h2⟩ := w.cell i _ q
            cases hy : es[es.length - 1]? with
            | none => rw [hy] at p; exact p.elim
            | some y =>
              rw [hy] at p
              obtain ⟨u, hu, du⟩ := h2.get hy
              obtain ⟨_, rfl⟩ := hv
              have dl : DaAll X.K H1 (Live S1 F1) ws.dropLast es.dropLast := by
                rw [List.dropLast_eq_take, List.dropLast_eq_take, h2.length]; exact h2.take _
              obtain ⟨w3, l3⟩ := w.setCell (ws := ws.dropLast) q dl
              exact ⟨.inl ⟨rfl, ws, SqL.of h1⟩, F1 i, ws, u, rfl, rfl, h1, by rw [h2.length]; exact hu, p.at_ w3 l3 u (Da.le l3 du)⟩
theorem DaAll.erase {K : PySem.W.Frag} {H : Hp} {A : Addr → Prop} {vs : List V} {ds : List D} (n : Nat) (h : DaAll K H A vs ds) : DaAll K H A (vs.eraseIdx n) (ds.eraseIdx n) := by
  rw [List.eraseIdx_eq_take_drop_succ, List.eraseIdx_eq_take_drop_succ]
  exact (h.take n).append (h.drop (n + 1))
theorem se_popi (ha : SE X Xq a fa) (hb : SE X Xq b fb) (hbase : attributeBase a "pop" X.env (eval a X.env) = eval a X.env) (hline : (apos.endLine == pos.line) = true) (hs : starEach [b] X.env = [(false, eval b X.env)]) :
    SE X Xq (.Call (.Attribute a "pop" apos) [b] [] pos) (fun e S => (fa e S).bind fun x S1 => (lift (cellOf x S1) S1).bind fun _ S2 => (fb e S2).bind fun y S3 => popiD x y S3) :=
  (pe_bm PySem.F.plainAttrs_list PySem.F.slot_list_pop PySem.F.type_list_pop mt_popAt ha (pa_cons hb pa_nil (by rw [hs]; rfl)) hbase (by rw [hs]; rfl) hline (by rw [hs]; rfl) rfl).weak fun st H Q h =>
    EX.e (g := fun e x S1 => (lift (cellOf x S1) S1).bind fun _ S2 => (fb e S2).bind fun y S3 => popiD x y S3) h fun e x S1 F1 H1 v w re hv p => by
      obtain ⟨ds, ec, p2⟩ := Post.lift w p.bind
      obtain ⟨i, vs, rfl, hS, rfl, hH, hd⟩ := cell_at w hv ec
      refine ⟨.inl ⟨rfl, vs, SqL.of hH⟩, e, S1, F1, w, re, p2.bind.imp fun y S2 F2 H2 w2 l2 p3 u hu => ?_⟩
      cases y with
      | ref j => exact p3.elim
      | d y =>
        unfold popiD at p3
        cases y <;> try exact p3.elim
        rename_i j
        obtain rfl : u = V.int j := by
          have hu' : Da X.K H2 (Live S2 F2) u (.int j) := hu
          cases hu'
          rfl
        dsimp only at p3
        cases q : S2[i]? with
        | none => rw [q] at p3; exact p3.elim
        | some cl =>
          rw [q] at p3
          cases cl with
          | gone => exact p3.elim
          | ro _ => exact p3.elim
          | lst es =>
            dsimp only at p3
            split at p3
            · rename_i hz
              simp only [Bool.and_eq_true, decide_eq_true_eq] at hz
              obtain ⟨ws, h1, h2⟩ := w2.cell i _ q
              have ei : F2 i = F1 i := l2.adr i hv.1
              cases hk : seqIndex? j es.length with
              | none => rw [hk] at p3; exact p3.elim
              | some n =>
                rw [hk] at p3
                dsimp only at p3
                cases hy : es[n]? with
                | none => rw [hy] at p3; exact p3.elim
                | some y =>
                  rw [hy] at p3
                  dsimp only at p3
                  obtain ⟨u', hu', du⟩ := h2.get hy
                  refine ⟨F1 i, ws, j, n, u', rfl, rfl, by rw [← ei]; exact h1, by omega, by omega, by rw [h2.length]; exact hk, hu', ?_⟩
                  obtain ⟨w3, l3⟩ := w2.setCell (ws := ws.eraseIdx n) q (h2.erase n)
                  rw [ei] at w3 l3
                  exact p3.at_ w3 l3 u' (Da.le l3 du)
            · exact p3.elim
/-! ### isinstance -/
def tyS : Ty → String
  | .int => "int" | .bool => "bool" | .str => "str" | .tuple => "tuple" | .list => "list" | .dict => "dict"
def tyN : D → String
  | .none => "NoneType" | .bool _ => "bool" | .int _ => "int" | .str _ => "str" | .list _ => "list" | .tuple _ => "tuple" | .dict _ => "dict"
theorem kit_ok (K : PySem.W.Frag) (x : D) (t : Ty) : PySem.W.kitOne K (.type (tyN x)) (.type (tyS t)) = some (tyOf x t) := by
  cases x <;> cases t <;> rfl
theorem tyx_of {K : PySem.W.Frag} {H : Hp} {A : Addr → Prop} {v : V} {x : D} (h : Dt K H A v x) : TyX K H v (.type (tyN x)) := by
  cases h with
  | da h =>
    cases h with
    | non => exact .base .non
    | bl b => exact .base (.bl b)
    | int i => exact .base (.int i)
    | str z => exact .base (.str z)
    | lst e _ _ => exact .base (.lst e)
    | tup r _ _ =>
      rcases r with r | ⟨o, r⟩
      · exact .base (.tup r)
      · exact .fTuple r
    | tupK w _ => obtain ⟨o, _, _, e, c, _⟩ := w; exact .kTuple e c
    | dct e _ => exact .base (.dK e)
    | dctK h => obtain ⟨_, _, _, _, _, _, _, e, _⟩ := h.ex; exact .kDict e rfl
  | ls sq _ =>
    rcases sq with (r | ⟨o, r⟩) | ⟨o, _, _, e, c, _⟩
    · exact .base (.lst r)
    · exact .base (.frz r)
    · exact .kList e c
theorem isi_te {t : Ty} {st : L2.St} {H : Hp} {Q : VK} (h : RE X.K Xq (fun e S => (fa e S).bind fun x S1 => lift ((asD x S1).map fun p => .d (.bool (tyOf p t))) S1) st H Q) :
    tCB (rIsi X.K) (tCons (RE X.K Xq fa) (tCons (tC (.ty (tyS t))) tNil)) st H Q :=
  EX.e (g := fun e x S1 => lift ((asD x S1).map fun p => R.d (.bool (tyOf p t))) S1) h fun e x S1 F1 H1 v w re hv p => by
    obtain ⟨r, er, q⟩ := Post.lift w p
    rw [Option.map_eq_some_iff] at er
    obtain ⟨d, e1, rfl⟩ := er
    exact ⟨v, .ty (tyS t), .type (tyN d), .type (tyS t), tyOf d t, rfl, .ty _, tyx_of (dt_of w hv e1), kit_ok X.K d t, q _ (.bl _)⟩
theorem boot_isi : bootBuiltins ("isinstance" : Str) = some (.builtin "isinstance") := by decide +kernel
theorem boot_ty (t : Ty) : bootBuiltins (Str.ofString (tyS t)) = some (.type (tyS t)) := by cases t <;> decide +kernel
theorem ty_nn (t : Ty) : (Str.ofString (tyS t)) ≠ "__name__" := by cases t <;> decide +kernel
theorem ty_db (t : Ty) : ((Str.ofString (tyS t)) == ("__debug__" : Str)) = false := by cases t <;> decide +kernel
theorem se_isi {t : Ty} {p q : Pos} (ha : SE X Xq a fa) (hg : Gl X "isinstance") (hm : X.mg "isinstance" = none) (hgt : Gl X (Str.ofString (tyS t))) (hmt : X.mg (Str.ofString (tyS t)) = none)
    (hs : ∀ r, starEach (a :: r) X.env = (false, eval a X.env) :: starEach r X.env) :
    SE X Xq (.Call (.Name "isinstance" p) [a, .Name (Str.ofString (tyS t)) q] [] pos) (fun e S => (fa e S).bind fun x S1 => lift ((asD x S1).map fun p => .d (.bool (tyOf p t))) S1) :=
  (pe_callB call_isi hg hm boot_isi (pa_cons ha (pa_cons (pe_bltn (v := .ty (tyS t)) hgt hmt (boot_ty t) rfl (ty_nn t) (ty_db t)) pa_nil rfl) (hs _)) (by decide) (by decide) (hs _) rfl).weak fun st H Q h => isi_te h
/-! ### targets -/
/-- the slots vs alone are written -/
def RG (K : PySem.W.Frag) (Xq : XW) (vs : List Nat) (f : R → Ev → Store → Out Ev) : TG := fun v st H Q => ∃ e S F r, Wok K H S F ∧ RepE K H S F e st ∧ RepR K H S F v r ∧ Post K Xq H S F (f r e S) (fun e1 S' F' H' => ∀ st', RepE K H' S' F' e1 st' → wipe st' vs = wipe st vs → Q st' H')
def RGs (K : PySem.W.Frag) (Xq : XW) (vs : List Nat) (f : List D → Ev → Store → Out Ev) : TGs := fun us st H Q => ∃ e S F ds, Wok K H S F ∧ RepE K H S F e st ∧ DaAll K H (Live S F) us ds ∧ Post K Xq H S F (f ds e S) (fun e1 S' F' H' => ∀ st', RepE K H' S' F' e1 st' → wipe st' vs = wipe st vs → Q st' H')
abbrev SG (X : Cx) (Xq : XW) (vs : List Nat) (t : Expr) (f : R → Ev → Store → Out Ev) : Prop := PG X t (RG X.K Xq vs f)
abbrev SGs (X : Cx) (Xq : XW) (vs : List Nat) (t : List Expr) (f : List D → Ev → Store → Out Ev) : Prop := PGs X t (RGs X.K Xq vs f)
theorem _root_.L2.PG.weak {X : Cx} {e : Expr} {t u : TG} (h : PG X e t) (w : ∀ v st H Q, u v st H Q → t v st H Q) : PG X e u := ⟨fun pins s st H v uv Q I r q => h.run pins s st H v uv Q I r (w v st H Q q)⟩
theorem _root_.L2.PGs.weak {X : Cx} {e : List Expr} {t u : TGs} (h : PGs X e t) (w : ∀ v st H Q, u v st H Q → t v st H Q) : PGs X e u := ⟨fun pins s st H v uv Q I r q => h.run pins s st H v uv Q I r (w v st H Q q)⟩
theorem set_none_comm {t : Type} {l : List (Option t)} {i j : Nat} {x : Option t} : i ≠ j → (l.set i x).set j none = (l.set j none).set i x := fun h => List.set_comm _ _ h
theorem wipe_set : ∀ {vs : List Nat} {st : L2.St} {i : Nat} {x : Option V}, i ∈ vs → wipe (st.set i x) vs = wipe st vs
  | [], _, _, _, h => by cases h
  | v :: vs, st, i, x, h => by
    have out : ∀ {ws : List Nat} {st : L2.St}, i ∉ ws → wipe (st.set i x) ws = (wipe st ws).set i x := by
      intro ws
      induction ws with
      | nil => intro st _; rfl
      | cons w ws ih =>
        intro st hn
        have h1 : i ≠ w := fun z => hn (by rw [z]; exact List.mem_cons_self)
        show (wipe (st.set i x) ws).set w none = ((wipe st ws).set w none).set i x
        rw [ih fun z => hn (List.mem_cons_of_mem _ z), set_none_comm h1]
    show (wipe (st.set i x) vs).set v none = (wipe st vs).set v none
    by_cases hm : i ∈ vs
    · rw [wipe_set hm]
    · have e : i = v := by
        rcases List.mem_cons.mp h with z | z
        · exact z
        · exact absurd z hm
      subst e
      rw [out hm, List.set_set]
theorem sg_v {i : Nat} {x : Str} {vs : List Nat} (hN : X.N.Nodup) (hi : X.N[i]? = some x) (hx : Loc X.env.scope x) (hf : X.fn x = true ∨ X.env.scope.names.lookup x = some .local) (hv : i ∈ vs) : SG X Xq vs (.Name x pos) (fun r e S => .ok (e.set i (some r)) S) :=
  (pg_name hN hi hx hf).weak fun v st H Q h => by
    obtain ⟨e, S, F, r, w, re, rv, p⟩ := h
    exact p.ok w _ (re.set i rv) (wipe_set hv)
theorem sgs_nil {vs : List Nat} : SGs X Xq vs [] (fun ds e S => match ds with | [] => .ok e S | _ => .bad) :=
  pgs_nil.weak fun us st H Q h => by
    obtain ⟨e, S, F, ds, w, re, rv, p⟩ := h
    cases rv with
    | nil => exact ⟨rfl, p.ok w _ re rfl⟩
    | cons _ _ => exact p.elim
theorem sgs_cons {t : Expr} {ts : List Expr} {vs : List Nat} {f : R → Ev → Store → Out Ev} {g : List D → Ev → Store → Out Ev} (h1 : SG X Xq vs t f) (h2 : SGs X Xq vs ts g) (hs : (assignEach (t :: ts) X.env).map (·.2) = assign t X.env :: (assignEach ts X.env).map (·.2)) :
    SGs X Xq vs (t :: ts) (fun ds e S => match ds with | d :: ds => (f (.d d) e S).bind fun e1 S1 => g ds e1 S1 | _ => .bad) :=
  (pgs_cons h1 h2 hs).weak fun us st H Q h => by
    obtain ⟨e, S, F, ds, w, re, rv, p⟩ := h
    cases rv with
    | nil => exact p.elim
    | cons h t =>
      refine ⟨_, _, rfl, e, S, F, .d _, w, re, h, p.bind.imp fun e1 S1 F1 H1 w1 l1 p1 st1 re1 hw => ?_⟩
      exact ⟨e1, S1, F1, _, w1, re1, t.le l1, p1.imp fun e2 S2 F2 H2 w2 l2 q st2 re2 hw2 => q st2 re2 (hw2.trans hw)⟩
theorem sg_t {ts : List Expr} {k n : Nat} {vs : List Nat} {g : List D → Ev → Store → Out Ev} (hc : X.calm = true) (h : SGs X Xq vs ts g) (hn : (assignEach ts X.env).length = n) (hst : (assignEach ts X.env).findIdx? (·.1) = none) :
    SG X Xq vs (.Tuple ts k pos) (fun r e S => match r with | .d (.tuple ds) => if ds.length = n then g ds e S else .bad | _ => .bad) :=
  (pg_tup hc h hn hst).weak fun v st H Q h => by
    obtain ⟨e, S, F, r, w, re, rv, p⟩ := h
    cases r with
    | ref i => exact p.elim
    | d x =>
      cases x with
      | tuple ds =>
        dsimp only at p
        split at p
        · rename_i hl
          have rv' : Da X.K H (Live S F) v (.tuple ds) := rv
          obtain ⟨a, xs, rfl, sq, da⟩ := rv'.asT
          exact ⟨a, xs, rfl, sq, by rw [da.length]; exact hl, e, S, F, ds, w, re, da, p⟩
        · exact p.elim
      | _ => exact p.elim
theorem sg_ix {vs : List Nat} (ha : SE X Xq a fa) (hb : SE X Xq b fb) (has : ∀ v, assign (.Subscript a b pos) X.env v = (do
      let ov ← holding [v] (eval a X.env)
      let iv ← holding [v, ov] (eval b X.env)
      standAt pos
      holding [v, ov, iv] (setItem ov iv v)
      release [v, ov, iv] [])) :
    SG X Xq vs (.Subscript a b pos) (fun r e S => (fa e S).bind fun x S1 => (fb e S1).bind fun y S2 => (setD x y r S2).bind fun _ S3 => .ok e S3) :=
  (pg_sub ha hb set_list has).weak fun v st H Q h => by
    obtain ⟨e, S, F, r, w, re, rv, p⟩ := h
    refine ⟨e, S, F, w, re, p.bind.imp fun x S1 F1 H1 w1 l1 p1 o ho => ?_⟩
    refine ⟨e, S1, F1, w1, re.le l1, p1.bind.imp fun y S2 F2 H2 w2 l2 p2 i hi => ?_⟩
    have rv2 := (rv.le l1).le l2
    have ho2 := ho.le l2
    cases x with
    | d _ => exact p2.elim
    | ref j =>
      cases y with
      | ref _ => exact p2.elim
      | d y =>
        cases y with
        | int n =>
          cases r with
          | ref _ => exact p2.elim
          | d z =>
            unfold setD at p2
            dsimp only at p2
            cases q : S2[j]? with
            | none => rw [q] at p2; exact p2.elim
            | some cl =>
              rw [q] at p2
              cases cl with
              | gone => exact p2.elim
              | ro _ => exact p2.elim
              | lst es =>
                dsimp only at p2
                cases hk : L2.ixN es.length n with
                | none => rw [hk] at p2; exact p2.elim
                | some m =>
                  rw [hk] at p2
                  obtain ⟨ws, h1, h2⟩ := w2.cell j _ q
                  obtain ⟨_, rfl⟩ := ho2
                  have hi' : Da X.K H2 (Live S2 F2) i (.int n) := hi
                  cases hi'
                  refine ⟨F2 j, ws, n, m, rfl, rfl, h1, by rw [h2.length]; exact hk, ?_⟩
                  obtain ⟨w3, l3⟩ := w2.setCell (ws := ws.set m v) q (DaAll.set rv2 m h2)
                  exact p2.at_ w3 l3 _ (((re.le l1).le l2).le l3) rfl
        | _ => exact p2.elim
end

/-! ### defs -/
/-- a def's promise where no repr is under way -/
structure FnG (P : Program) (w : World) (K : PySem.W.Frag) (mg : Str → Option Value) (base : Heap) (CX : CXT) (k : Nat) (f : Addr) (fd : FuncData) (ps : List Str) (sp : Sp) : Prop where
  size : ∀ vs H Q E, sp vs H Q E → vs.length = ps.length
  go : ∀ (A : Around) (outer : List PySem.Env) (s : Shared) (H : Hp) (args : Args) (us : List Value) (vs : List V) (Q : VK) (E : XK), Room k A → A.guards = some [] → Env0 P w K mg base A outer s H → BindsTo s fd args (ps.zip us) → Vals vs us → sp vs H Q E →
    codeAny (model P w) A (.call (.ref f) args) (CR CX outer P w H s Q E) s
section
variable {P : Program} {w : World} {K : PySem.W.Frag} {mg : Str → Option Value} {base : Heap} {CX : CXT} {k : Nat} {f : Addr} {fd : FuncData} {ps : List Str} {sp : Sp}
/-- a def by its body -/
theorem fnG_of {name qual : Str} {params : Arguments} {body : List Stmt} {scope : Scope} {dV kV doc pm cdv ct oc : Value} {an od : Option Addr} {osl : Array (Option Value)} {N : List Str}
    (lk : K.lookup f = some ⟨oc, od, .func (PySem.W.fnOf name qual params body scope dV kV doc pm an cdv ct), osl⟩) (hcd : PySem.W.codeIn K cdv qual = true) (S : FnScope N ps scope) (size : ∀ vs H Q E, sp vs H Q E → vs.length = ps.length)
    (hbody : ∀ (A : Around) (outer : List PySem.Env) (s : Shared) (H : Hp) (vs : List V) (Q : VK) (E : XK), Room k (A.deeper (envOfC qual scope s.heap.objs.size f cdv)) → A.guards = some [] → sp vs H Q E →
      ∃ t, PSs (cxOf CX P w K mg base N qual scope f cdv A outer s H E) body t ∧ t { nx := fun _ H' => Q .non H', rt := Q } (start N vs) H) :
    FnG P w K mg base CX (k + 1) f (PySem.W.fnOf name qual params body scope dV kV doc pm an cdv ct) ps sp := by
  refine ⟨size, fun A outer s H args us vs Q E hr hg e0 hb r hsp => ?_⟩
  have same : ∀ b o, base.get? b = some o → s.heap.get? b = some o := fun b o e => (e0.bs b o e).1
  have inK : K.In s.heap := e0.mod.kin.keeps same
  have noLim : s.heap.NoLimit := e0.mod.nolimit.keeps same
  have kinds : ∀ y ∈ ps.zip us, scope.names.lookup y.1 = some .local ∨ (scope.names.lookup y.1 = some .cell ∧ ((cellsFrom (s.heap.objs.size + 1) scope.names []).lookup y.1).isSome = true) := by
    rintro ⟨x, v⟩ hy
    exact (S.par x (List.of_mem_zip hy).1).imp id fun q => ⟨q, PySem.W.cellsFrom_some _ _ _ (.inl q)⟩
  refine codeAny_call_function hr.depth (inK _ _ lk) rfl S.co S.gen rfl (PySem.W.codeRec_of inK hcd) (hb _ _ _ _ ?_)
  refine wpAny_newFunctionEnv_cells S.kind kinds fun env he s1 x => ?_
  subst he
  refine ⟨noLim.keeps x.toInCall.keep, codeAny_func ?_⟩
  obtain ⟨t, ht, hq⟩ := hbody A outer s H vs Q E (hr.deeper _) hg hsp
  have I : Inv (cxOf CX P w K mg base N qual scope f cdv A outer s H E) [] (start N vs) H s1 := inv_start S hr.hd e0 (size _ _ _ _ hsp) r x
  refine wpAny_mono (ht.run [] s1 (start N vs) H _ I hq) (fun fl s' hs => ?_) fun e s' hs => hs
  cases fl with
  | ret u => obtain ⟨v, _, H', J, rv, q⟩ := hs; exact ⟨v, H', J.os, J.bare, J.base, J.hok, rv, q⟩
  | next => obtain ⟨_, H', J, q⟩ := hs; exact ⟨.non, H', J.os, J.bare, J.base, J.hok, rfl, q⟩
  | brk => obtain ⟨_, _, _, q⟩ := hs; exact q.elim
  | cont => obtain ⟨_, _, _, q⟩ := hs; exact q.elim
end
section
variable {X : Cx} {CX : CXT} {k : Nat} {f : Addr} {fd : FuncData} {ps : List Str} {sp : Sp} {dvs : List V} {ds : List Value} {E : XK} {x : Str} {p pos : Pos} {e : Expr} {es : List Expr} {t : TA}
theorem runG {pins : List (Addr × Obj)} {st : L2.St} {H : Hp} {s : Shared} {Q : VK} {us ws : List Value} {kw : List (Str × Value)} {vs : List V} (F : FnG X.prog X.w X.K X.mg X.base CX k f fd ps sp) (hr : Room k X.A) (hg : X.A.guards = some []) (hx : Passes CX X E)
    (I : Inv X pins st H s) (r : Vals vs ws) (hb : ws.length = ps.length → BindsTo s fd ⟨us, kw⟩ (ps.zip ws)) (h : sp vs H Q E) : wpAny (model X.prog X.w) X.A (PySem.call (.ref f) us kw) (EP X pins st Q) X.xe s := by
  have hl : ws.length = ps.length := by rw [← r.length]; exact F.size _ _ _ _ h
  refine wpAny_call (codeAny_mono (F.go X.A X.stack s H ⟨us, kw⟩ ws vs Q E hr hg I.env0 (hb hl) r h) fun o s' hq => ?_)
  cases o with
  | error e => exact hx pins st H s e s' I hq
  | ok fl =>
    cases fl with
    | ret u => exact I.after hq
    | next => exact hq.elim
    | brk => exact hq.elim
    | cont => exact hq.elim
theorem pe_callGd (F : FnG X.prog X.w X.K X.mg X.base CX k f fd ps sp) (hr : Room k X.A) (hgu : X.A.guards = some []) (hg : Gl X x) (hm : X.mg x = some (.ref f)) (hk : PySem.W.keepIn X.K (.ref f) = true) (hb : Binds X.K fd ps []) (hx : Passes CX X E)
    (ha : PA X (e :: es) t) (hdb : (x == ("__debug__" : Str)) = false) (he : starEach (e :: es) X.env = (false, eval e X.env) :: starEach es X.env) (hpl : (backTo pos (starEach es X.env)).any (·.1) = false) :
    PE X (.Call (.Name x p) (e :: es) [] pos) (fun st H Q => t st H fun vs H1 => sp vs H1 Q E) := by
  refine ⟨fun pins s st H Q I h => ?_⟩
  refine wpAny_Call_Name_kw (ld_glob I hg hm ?_ hdb)
  refine PySem.W.callWith_K (h₀ := X.base) I.ok.mod.kin hk (thn (ha.run pos pins s st H _ I h) fun us s1 ⟨vs, H1, I1, r, q⟩ => ⟨I1.kIn, ?_⟩) he hpl
  exact runG F hr hgu hx I1 r (fun hl => by have := hb s1 us I1.kIn (by simpa using hl); simpa using this) q
end
end Sx
set_option Elab.async false
set_option linter.all false
set_option maxHeartbeats 1000000
/-! Sx, part H: what is walked: zip and enumerate over lists, tuples and texts in any mixture. -/
namespace Sx
open PySem PySem.Spec PyProof.Rows L2

/-- what an iterator goes over -/
inductive CK where
  | lst (a : Addr) | tup (a : Addr) | str (x : Str)
def CK.is : CK → V → Prop
  | .lst a, v => v = .ref a
  | .tup a, v => v = .ref a
  | .str x, v => v = .str x
def CK.has (K : PySem.W.Frag) (H : Hp) : CK → List V → Prop
  | .lst a, xs => SqL K H a xs
  | .tup a, xs => SqT K H a xs
  | .str x, xs => xs = x.cps.toList.map fun c => V.str ⟨#[c]⟩
def CK.adr : CK → List Addr
  | .lst a => [a]
  | .tup a => [a]
  | .str _ => []
def CK.at_ (it : Addr) : CK → Nat → Heap → Prop
  | .lst a, i, h => h.IsListIter it a i
  | .tup a, i, h => h.IsTupleIter it a i
  | .str x, i, h => ∃ t, h.IsStrIter it (strIterType x) x t i
theorem CK.keep {c : CK} {it : Addr} {i : Nat} {h h' : Heap} (st : c.at_ it i h) (k : ∀ o, h.get? it = some o → h'.get? it = some o) : c.at_ it i h' := by
  cases c with
  | lst a => obtain ⟨o, e, r⟩ := st; exact ⟨o, k o e, r⟩
  | tup a => obtain ⟨o, e, r⟩ := st; exact ⟨o, k o e, r⟩
  | str x => obtain ⟨t, o, e, r⟩ := st; exact ⟨t, o, k o e, r⟩
theorem CK.obj {c : CK} {it : Addr} {i : Nat} {h : Heap} (st : c.at_ it i h) : ∃ o, h.get? it = some o ∧ ∀ v, o.data ≠ .cell v := by
  cases c with
  | lst a => obtain ⟨o, e, _, d⟩ := st; exact ⟨o, e, fun v q => by rw [d] at q; cases q⟩
  | tup a => obtain ⟨o, e, _, d⟩ := st; exact ⟨o, e, fun v q => by rw [d] at q; cases q⟩
  | str x => obtain ⟨t, o, e, _, d⟩ := st; exact ⟨o, e, fun v q => by rw [d] at q; cases q⟩
section
variable {X : Cx} {pins : List (Addr × Obj)} {st : L2.St} {H : Hp} {s : Shared}
theorem CK.inj {c : CK} {xs ys : List V} (I : Inv X pins st H s) (h : c.has X.K H xs) (h' : c.has X.K H ys) : xs = ys := by
  cases c with
  | lst a => exact I.list_inj h h'
  | tup a => exact I.tuple_inj h h'
  | str x => exact (show xs = _ from h).trans (show ys = _ from h').symm
theorem CK.lt {c : CK} {xs : List V} (I : Inv X pins st H s) (h : c.has X.K H xs) : ∀ a ∈ c.adr, a < s.heap.objs.size := by
  cases c with
  | lst a =>
    intro b hb
    obtain ⟨its, _, p, _⟩ := I.list h
    rw [List.mem_singleton.mp hb]; exact p.lt
  | tup a =>
    intro b hb
    obtain ⟨its, _, p, _⟩ := I.tuple h
    rw [List.mem_singleton.mp hb]; exact p.lt
  | str x => intro b hb; cases hb
/-- the draws of an iterator over it -/
theorem CK.draws {c : CK} {xs : List V} {it : Addr} {i : Nat} (I : Inv X pins st H s) (hc : X.calm = true) (h : c.has X.K H xs) (at_ : c.at_ it i s.heap) (ne : ∀ a ∈ c.adr, a ≠ it) :
    ∃ (Pv : Nat → Value → Prop) (T : Nat → Heap → Prop), Draws X.prog X.w X.A.in1 it (it :: c.adr) xs.length Pv T ∧ T i s.heap ∧ (∀ j h, T j h → c.at_ it j h) ∧ ∀ j v, Pv j v → ∃ x, xs[j]? = some x ∧ RelV x v := by
  have hh : X.A.in1.handled = none := I.ok.hd hc
  cases c with
  | lst a =>
    obtain ⟨its, r, p, _⟩ := I.list h
    refine ⟨fun i v => its.toArray[i]? = some v, fun i h => h.IsListIter it a i ∧ h.IsList a its.toArray, by have := Draws.list (prog := X.prog) (w := X.w) hh it a (ne a (by simp [CK.adr])) its.toArray; rw [List.size_toArray, ← r.length] at this; exact this, ⟨at_, p.isList⟩, fun j h q => q.1, fun j v q => ?_⟩
    have q' : its[j]? = some v := by simpa using q
    cases hx : xs[j]? with
    | none => have := r.none_of hx; rw [this] at q'; cases q'
    | some x => obtain ⟨u, hu, ru⟩ := r.get hx; rw [hu] at q'; cases q'; exact ⟨x, rfl, ru⟩
  | tup a =>
    obtain ⟨its, r, p, _⟩ := I.tuple h
    refine ⟨fun i v => its.toArray[i]? = some v, fun i h => h.IsTupleIter it a i ∧ h.IsTuple a its.toArray, by have := Draws.tuple (prog := X.prog) (w := X.w) hh it a (ne a (by simp [CK.adr])) its.toArray; rw [List.size_toArray, ← r.length] at this; exact this, ⟨at_, p⟩, fun j h q => q.1, fun j v q => ?_⟩
    have q' : its[j]? = some v := by simpa using q
    cases hx : xs[j]? with
    | none => have := r.none_of hx; rw [this] at q'; cases q'
    | some x => obtain ⟨u, hu, ru⟩ := r.get hx; rw [hu] at q'; cases q'; exact ⟨x, rfl, ru⟩
  | str z =>
    obtain ⟨t, at_⟩ := at_
    have h' : xs = _ := h
    subst h'
    refine ⟨_, _, by have := Draws.text (prog := X.prog) (w := X.w) hh it z t; rw [show z.cps.size = (z.cps.toList.map fun c => V.str ⟨#[c]⟩).length by simp] at this; exact this, at_, fun j h q => ⟨t, q⟩, fun j v q => ?_⟩
    obtain ⟨c, u, hc', rfl⟩ := q
    exact ⟨.str ⟨#[c]⟩, by simp [hc'], u, rfl⟩
/-- its beginning -/
theorem CK.begins {c : CK} {v : V} {u : Value} {xs : List V} (I : Inv X pins st H s) (h : c.has X.K H xs) (hv : c.is v) (r : RelV v u) :
    ∃ (o : Obj) (B : Heap → Prop), Begins u o B ∧ B s.heap ∧ ∀ h' it, h'.get? it = some o → c.at_ it 0 h' := by
  cases c with
  | lst a =>
    cases (show v = .ref a from hv)
    cases r
    obtain ⟨its, r, p, _⟩ := I.list h
    exact ⟨_, _, begins_list a its.toArray, p.isList, fun h' it e => ⟨_, e, rfl, rfl⟩⟩
  | tup a =>
    cases (show v = .ref a from hv)
    cases r
    obtain ⟨its, r, p, _⟩ := I.tuple h
    exact ⟨_, _, begins_tuple a its.toArray, p, fun h' it e => ⟨_, e, rfl, rfl⟩⟩
  | str z =>
    cases (show v = .str z from hv)
    obtain ⟨t, rfl⟩ := r
    exact ⟨_, _, begins_text z t, trivial, fun h' it e => ⟨t, _, e, rfl, rfl⟩⟩
/-- one turn of a walk that gives new tuples -/
theorem item_T {it : Addr} {fp wr : List Addr} {n i : Nat} {Pt : Nat → Array Value → Prop} {T : Nat → Heap → Prop} {Mid : Nat → Addr → Heap → Prop} {elts : List Expr} {kk : Nat} {tpos : Pos} {Y : List V → Prop} {E : Value → Shared → Prop}
    (W : WalksT X.prog X.w X.A it fp wr n Pt T Mid) (I : Inv X pins st H s) (hf : ∀ b ∈ wr, FpOk X pins H b) (hi : i < n) (t0 : T i s.heap) (conv : ∀ vals, Pt i vals → ∃ xs : List V, Vals xs vals.toList ∧ xs.length ≤ sizeLine ∧ Y xs) :
    wpAny (model X.prog X.w) X.A (pyNext (.ref it)) (fun r s1 => ∃ u, r = some u ∧
      wpAny (model X.prog X.w) X.A (letOwnedTupleGo (.Tuple elts kk tpos) (.ref it) u) (fun _ s2 => ∃ a xs, u = .ref a ∧ Inv X pins st (upd H a (.tup xs)) s2 ∧ H a = none ∧ s.heap.objs.size ≤ a ∧ Y xs ∧ T (i + 1) s2.heap ∧ ∀ b o, b ∉ wr → s.heap.get? b = some o → s2.heap.get? b = some o) E s1) E s := by
  refine W.item i s _ E hi t0 fun a vals h' tk hP hsz hT hM hk => ⟨.ref a, rfl, ?_⟩
  refine W.go elts kk tpos i a { s with heap := h', toks := tk } _ E hM fun h'' ht hk2 => ?_
  obtain ⟨xs, rv, hz, hy⟩ := conv vals hP
  have na := W.apart i a h' hM
  have hT2 : h''.IsTuple a vals := hT.at fun o e => hk2 a o na e
  have kk2 : ∀ b o, b ∉ wr → s.heap.get? b = some o → h''.get? b = some o := fun b o hb e => hk2 b o hb (hk b o hb e)
  refine ⟨a, xs, rfl, I.turnedNew (t' := tk) (ch := wr) kk2 hf hsz ⟨hz, vals.toList, rv, by simpa using (show IsTup h'' a vals from hT2)⟩, I.hok.fresh hsz, hsz, hy, ht, kk2⟩
theorem done_T {it : Addr} {fp wr : List Addr} {n : Nat} {Pt : Nat → Array Value → Prop} {T : Nat → Heap → Prop} {Mid : Nat → Addr → Heap → Prop} {E : Value → Shared → Prop}
    (W : WalksT X.prog X.w X.A it fp wr n Pt T Mid) (I : Inv X pins st H s) (hf : ∀ b ∈ wr, FpOk X pins H b) (t0 : T n s.heap) :
    wpAny (model X.prog X.w) X.A (pyNext (.ref it)) (fun r s1 => r = none ∧ Inv X pins st H s1) E s :=
  W.done s _ E t0 fun h' tk hk => ⟨rfl, I.turnedL (t' := tk) (ch := wr) hk hf⟩
end
/-! ### zip of two -/
def Itz2 (K : PySem.W.Frag) (c1 c2 : CK) : It :=
  ⟨fun i H => ∃ xs ys, c1.has K H xs ∧ c2.has K H ys ∧ i < xs.length ∧ i < ys.length,
    fun i H v H' => ∃ a x y, v = .ref a ∧ H a = none ∧ H' = upd H a (.tup [x, y]) ∧ (∀ xs, c1.has K H xs → xs[i]? = some x) ∧ ∀ ys, c2.has K H ys → ys[i]? = some y,
    fun i H => ∃ xs ys, c1.has K H xs ∧ c2.has K H ys ∧ i = min xs.length ys.length⟩
theorem turn_z2 {P : Program} {w : World} {K : PySem.W.Frag} {elts : List Expr} {kk : Nat} {tpos : Pos} {c1 c2 : CK} {z TI TO i1 i2 : Addr} (S : ZipSep2 z TI TO i1 i2 (i1 :: c1.adr) (i2 :: c2.adr)) (n1 : ∀ a ∈ c1.adr, a ≠ i1) (n2 : ∀ a ∈ c2.adr, a ≠ i2) :
    Turn P w K (.Tuple elts kk tpos) (Itz2 K c1 c2) [z, TI, TO, i1, i2] z (fun i h => IsZip h z TI TO .none ∧ IsTupOf2 h TI (.ref i1) (.ref i2) ∧ (∃ x y, IsTupOf2 h TO x y) ∧ c1.at_ i1 i h ∧ c2.at_ i2 i h) where
  mem := by simp
  obj := fun i h t b hb => by
    obtain ⟨hz, hI, ⟨x, y, hO⟩, h1, h2⟩ := t
    simp only [List.mem_cons, List.not_mem_nil, or_false] at hb
    rcases hb with e | e | e | e | e <;> rw [e]
    · exact ⟨_, hz, fun v q => nomatch q⟩
    · exact ⟨_, hI, fun v q => nomatch q⟩
    · exact ⟨_, hO, fun v q => nomatch q⟩
    · exact CK.obj h1
    · exact CK.obj h2
  keep := fun i h h' t k => by
    obtain ⟨hz, hI, ⟨x, y, hO⟩, h1, h2⟩ := t
    exact ⟨k z (by simp) _ hz, k TI (by simp) _ hI, ⟨x, y, k TO (by simp) _ hO⟩, CK.keep h1 fun o e => k i1 (by simp) o e, CK.keep h2 fun o e => k i2 (by simp) o e⟩
  item := by
    intro X hP hw hK hc i pins s st H E I hf t hg
    subst hP hw hK
    obtain ⟨hz, hI, hO, h1, h2⟩ := t
    obtain ⟨xs, ys, hx, hy, lx, ly⟩ := hg
    obtain ⟨P1, T1, D1, s1, a1, v1⟩ := CK.draws I hc hx h1 n1
    obtain ⟨P2, T2, D2, s2, a2, v2⟩ := CK.draws I hc hy h2 n2
    have W := WalksT.zipD2 S D1 D2
    have fr : ∀ b ∈ [z, TO, i1, i2], FpOk X pins H b := fun b hb => hf b (by simp only [List.mem_cons, List.not_mem_nil, or_false] at hb ⊢; rcases hb with e | e | e | e <;> simp [e])
    have old : ∀ b ∈ [z, TI, TO, i1, i2], b < s.heap.objs.size := fun b hb => by
      simp only [List.mem_cons, List.not_mem_nil, or_false] at hb
      obtain ⟨_, _, hO'⟩ := hO
      rcases hb with e | e | e | e | e <;> rw [e]
      · exact Heap.lt_size hz
      · exact Heap.lt_size hI
      · exact Heap.lt_size hO'
      · obtain ⟨o, e, _⟩ := CK.obj h1; exact Heap.lt_size e
      · obtain ⟨o, e, _⟩ := CK.obj h2; exact Heap.lt_size e
    refine thn (item_T (i := i) (Y := fun l => ∃ x y, l = [x, y] ∧ xs[i]? = some x ∧ ys[i]? = some y) W I fr (by omega) ⟨hz, hI, hO, s1, s2⟩ fun vals hp => ?_) fun r s' ⟨u, er, h⟩ => ⟨u, er, thn h fun _ s3 ⟨a, l, eu, J, na, sz, ⟨x, y, el, ex, ey⟩, ⟨z', I', O', t1, t2⟩, kp⟩ => ?_⟩
    · obtain ⟨x1, x2, p1, p2, rfl⟩ := hp
      obtain ⟨x, ex, rx⟩ := v1 i x1 p1
      obtain ⟨y, ey, ry⟩ := v2 i x2 p2
      exact ⟨[x, y], .cons rx (.cons ry .nil), by show 2 ≤ sizeLine; decide, x, y, rfl, ex, ey⟩
    · subst eu; subst el
      refine ⟨.ref a, _, J, rfl, ⟨a, x, y, rfl, na, rfl, fun l hl => by rw [CK.inj I hl hx]; exact ex, fun l hl => by rw [CK.inj I hl hy]; exact ey⟩, ⟨z', I', O', a1 _ _ t1, a2 _ _ t2⟩, fun b hb => ?_⟩
      have := old b hb
      rw [upd_ne (Nat.ne_of_lt (Nat.lt_of_lt_of_le this sz))]
      exact (hf b hb).1
  done := by
    intro X hP hw hK hc i pins s st H E I hf t hg
    subst hP hw hK
    obtain ⟨hz, hI, hO, h1, h2⟩ := t
    obtain ⟨xs, ys, hx, hy, ei⟩ := hg
    obtain ⟨P1, T1, D1, s1, a1, v1⟩ := CK.draws I hc hx h1 n1
    obtain ⟨P2, T2, D2, s2, a2, v2⟩ := CK.draws I hc hy h2 n2
    have fr : ∀ b ∈ [z, TO, i1, i2], FpOk X pins H b := fun b hb => hf b (by simp only [List.mem_cons, List.not_mem_nil, or_false] at hb ⊢; rcases hb with e | e | e | e <;> simp [e])
    subst ei
    exact done_T (WalksT.zipD2 S D1 D2) I fr ⟨hz, hI, hO, s1, s2⟩
  self := fun A i s Q E t h => wpAny_pyIter_zip t.1 h
def iZ2 (K : PySem.W.Frag) (ta : TA) : TI := fun st H R => ta st H fun vs H1 => ∃ v1 v2 c1 c2 xs ys, vs = [v1, v2] ∧ CK.is c1 v1 ∧ CK.is c2 v2 ∧ c1.has K H1 xs ∧ c2.has K H1 ys ∧ R (Itz2 K c1 c2) H1
theorem pi_z2 {X : Cx} {e e2 : Expr} {ta : TA} {p pos tpos : Pos} {elts : List Expr} {kk : Nat} (hg : Gl X "zip") (hm : X.mg "zip" = none) (ha : PA X [e, e2] ta)
    (hs : starEach [e, e2] X.env = (false, eval e X.env) :: starEach [e2] X.env) (hpl : (backTo pos (starEach [e2] X.env)).any (·.1) = false) :
    PI X (.Tuple elts kk tpos) (.Call (.Name "zip" p) [e, e2] [] pos) (iZ2 X.K ta) := by
  refine ⟨fun pins s st H R I h => ?_⟩
  refine Call_ (ld_blt I hg hm PyProof.Rows.boot_zip (PyProof.Rows.callWith_type1 (thn (ha.run pos pins s st H _ I h) fun us s1 ⟨vs, H1, I1, r1, q1⟩ => ?_) hs hpl))
  obtain ⟨v1, v2, c1, c2, xs, ys, rfl, k1, k2, hx, hy, q⟩ := q1
  obtain ⟨u1, u2, rfl, r1, r2⟩ := vals2 r1
  obtain ⟨o1, B1, b1, g1, f1⟩ := CK.begins I1 hx k1 r1
  obtain ⟨o2, B2, b2, g2, f2⟩ := CK.begins I1 hy k2 r2
  refine zip_begins2 b1 b2 g1 g2 fun h' hz hI hO e1 e2 hsz hk => wpAny_pyIter_zip hz ?_
  have J : Inv X pins st H1 { s1 with heap := h' } := I1.kept (t' := s1.toks) hk
  have l1 := CK.lt I1 hx
  have l2 := CK.lt I1 hy
  refine ⟨_, [s1.heap.objs.size + 4, s1.heap.objs.size + 2, s1.heap.objs.size + 3, s1.heap.objs.size, s1.heap.objs.size + 1], _, _, H1, rfl, J, turn_z2 (zip_sep2 l1 l2) (fun a ha => Nat.ne_of_lt (l1 a ha)) (fun a ha => Nat.ne_of_lt (Nat.lt_succ_of_lt (l2 a ha))), ⟨hz, hI, ⟨_, _, hO⟩, f1 _ _ e1, f2 _ _ e2⟩, fun c hcm => ?_, q⟩
  simp only [List.mem_cons, List.not_mem_nil, or_false] at hcm
  have hle : s1.heap.objs.size ≤ c := by rcases hcm with z | z | z | z | z <;> rw [z] <;> first | exact Nat.le_refl _ | exact Nat.le_add_right _ _
  exact I1.fpOk hle (I1.hok.fresh hle)
/-! ### zip of three -/
def Itz3 (K : PySem.W.Frag) (c1 c2 c3 : CK) : It :=
  ⟨fun i H => ∃ xs ys zs, c1.has K H xs ∧ c2.has K H ys ∧ c3.has K H zs ∧ i < xs.length ∧ i < ys.length ∧ i < zs.length,
    fun i H v H' => ∃ a x y z, v = .ref a ∧ H a = none ∧ H' = upd H a (.tup [x, y, z]) ∧ (∀ xs, c1.has K H xs → xs[i]? = some x) ∧ (∀ ys, c2.has K H ys → ys[i]? = some y) ∧ ∀ zs, c3.has K H zs → zs[i]? = some z,
    fun i H => ∃ xs ys zs, c1.has K H xs ∧ c2.has K H ys ∧ c3.has K H zs ∧ i = min (min xs.length ys.length) zs.length⟩
theorem turn_z3 {P : Program} {w : World} {K : PySem.W.Frag} {elts : List Expr} {kk : Nat} {tpos : Pos} {c1 c2 c3 : CK} {z TI TO i1 i2 i3 : Addr} (S : ZipSep3 z TI TO i1 i2 i3 (i1 :: c1.adr) (i2 :: c2.adr) (i3 :: c3.adr)) (n1 : ∀ a ∈ c1.adr, a ≠ i1) (n2 : ∀ a ∈ c2.adr, a ≠ i2) (n3 : ∀ a ∈ c3.adr, a ≠ i3) :
    Turn P w K (.Tuple elts kk tpos) (Itz3 K c1 c2 c3) [z, TI, TO, i1, i2, i3] z (fun i h => IsZip h z TI TO .none ∧ IsTupOf3 h TI (.ref i1) (.ref i2) (.ref i3) ∧ (∃ x y u, IsTupOf3 h TO x y u) ∧ c1.at_ i1 i h ∧ c2.at_ i2 i h ∧ c3.at_ i3 i h) where
  mem := by simp
  obj := fun i h t b hb => by
    obtain ⟨hz, hI, ⟨x, y, u, hO⟩, h1, h2, h3⟩ := t
    simp only [List.mem_cons, List.not_mem_nil, or_false] at hb
    rcases hb with e | e | e | e | e | e <;> rw [e]
    · exact ⟨_, hz, fun v q => nomatch q⟩
    · exact ⟨_, hI, fun v q => nomatch q⟩
    · exact ⟨_, hO, fun v q => nomatch q⟩
    · exact CK.obj h1
    · exact CK.obj h2
    · exact CK.obj h3
  keep := fun i h h' t k => by
    obtain ⟨hz, hI, ⟨x, y, u, hO⟩, h1, h2, h3⟩ := t
    exact ⟨k z (by simp) _ hz, k TI (by simp) _ hI, ⟨x, y, u, k TO (by simp) _ hO⟩, CK.keep h1 fun o e => k i1 (by simp) o e, CK.keep h2 fun o e => k i2 (by simp) o e, CK.keep h3 fun o e => k i3 (by simp) o e⟩
  item := by
    intro X hP hw hK hc i pins s st H E I hf t hg
    subst hP hw hK
    obtain ⟨hz, hI, hO, h1, h2, h3⟩ := t
    obtain ⟨xs, ys, zs, hx, hy, hw, lx, ly, lz⟩ := hg
    obtain ⟨P1, T1, D1, s1, a1, v1⟩ := CK.draws I hc hx h1 n1
    obtain ⟨P2, T2, D2, s2, a2, v2⟩ := CK.draws I hc hy h2 n2
    obtain ⟨P3, T3, D3, s3, a3, v3⟩ := CK.draws I hc hw h3 n3
    have W := WalksT.zipD3 S D1 D2 D3
    have fr : ∀ b ∈ [z, TO, i1, i2, i3], FpOk X pins H b := fun b hb => hf b (by simp only [List.mem_cons, List.not_mem_nil, or_false] at hb ⊢; rcases hb with e | e | e | e | e <;> simp [e])
    have old : ∀ b ∈ [z, TI, TO, i1, i2, i3], b < s.heap.objs.size := fun b hb => by
      simp only [List.mem_cons, List.not_mem_nil, or_false] at hb
      obtain ⟨_, _, _, hO'⟩ := hO
      rcases hb with e | e | e | e | e | e <;> rw [e]
      · exact Heap.lt_size hz
      · exact Heap.lt_size hI
      · exact Heap.lt_size hO'
      · obtain ⟨o, e, _⟩ := CK.obj h1; exact Heap.lt_size e
      · obtain ⟨o, e, _⟩ := CK.obj h2; exact Heap.lt_size e
      · obtain ⟨o, e, _⟩ := CK.obj h3; exact Heap.lt_size e
    refine thn (item_T (i := i) (Y := fun l => ∃ x y u, l = [x, y, u] ∧ xs[i]? = some x ∧ ys[i]? = some y ∧ zs[i]? = some u) W I fr (by omega) ⟨hz, hI, hO, s1, s2, s3⟩ fun vals hp => ?_) fun r s' ⟨u, er, h⟩ => ⟨u, er, thn h fun _ s4 ⟨a, l, eu, J, na, sz, ⟨x, y, q, el, ex, ey, eq⟩, ⟨z', I', O', t1, t2, t3⟩, kp⟩ => ?_⟩
    · obtain ⟨x1, x2, x3, p1, p2, p3, rfl⟩ := hp
      obtain ⟨x, ex, rx⟩ := v1 i x1 p1
      obtain ⟨y, ey, ry⟩ := v2 i x2 p2
      obtain ⟨q, eq, rq⟩ := v3 i x3 p3
      exact ⟨[x, y, q], .cons rx (.cons ry (.cons rq .nil)), by show 3 ≤ sizeLine; decide, x, y, q, rfl, ex, ey, eq⟩
    · subst eu; subst el
      refine ⟨.ref a, _, J, rfl, ⟨a, x, y, q, rfl, na, rfl, fun l hl => by rw [CK.inj I hl hx]; exact ex, fun l hl => by rw [CK.inj I hl hy]; exact ey, fun l hl => by rw [CK.inj I hl hw]; exact eq⟩, ⟨z', I', O', a1 _ _ t1, a2 _ _ t2, a3 _ _ t3⟩, fun b hb => ?_⟩
      have := old b hb
      rw [upd_ne (Nat.ne_of_lt (Nat.lt_of_lt_of_le this sz))]
      exact (hf b hb).1
  done := by
    intro X hP hw hK hc i pins s st H E I hf t hg
    subst hP hw hK
    obtain ⟨hz, hI, hO, h1, h2, h3⟩ := t
    obtain ⟨xs, ys, zs, hx, hy, hw, ei⟩ := hg
    obtain ⟨P1, T1, D1, s1, a1, v1⟩ := CK.draws I hc hx h1 n1
    obtain ⟨P2, T2, D2, s2, a2, v2⟩ := CK.draws I hc hy h2 n2
    obtain ⟨P3, T3, D3, s3, a3, v3⟩ := CK.draws I hc hw h3 n3
    have fr : ∀ b ∈ [z, TO, i1, i2, i3], FpOk X pins H b := fun b hb => hf b (by simp only [List.mem_cons, List.not_mem_nil, or_false] at hb ⊢; rcases hb with e | e | e | e | e <;> simp [e])
    subst ei
    exact done_T (WalksT.zipD3 S D1 D2 D3) I fr ⟨hz, hI, hO, s1, s2, s3⟩
  self := fun A i s Q E t h => wpAny_pyIter_zip t.1 h
def iZ3 (K : PySem.W.Frag) (ta : TA) : TI := fun st H R => ta st H fun vs H1 => ∃ v1 v2 v3 c1 c2 c3 xs ys zs, vs = [v1, v2, v3] ∧ CK.is c1 v1 ∧ CK.is c2 v2 ∧ CK.is c3 v3 ∧ c1.has K H1 xs ∧ c2.has K H1 ys ∧ c3.has K H1 zs ∧ R (Itz3 K c1 c2 c3) H1
theorem vals3 {x y z : V} {us : List Value} (r : Vals [x, y, z] us) : ∃ u v q, us = [u, v, q] ∧ RelV x u ∧ RelV y v ∧ RelV z q := by
  cases r with
  | cons r1 r2 =>
    obtain ⟨u, v, rfl, a, b⟩ := vals2 r2
    exact ⟨_, _, _, rfl, r1, a, b⟩
theorem pi_z3 {X : Cx} {e e2 e3 : Expr} {ta : TA} {p pos tpos : Pos} {elts : List Expr} {kk : Nat} (hg : Gl X "zip") (hm : X.mg "zip" = none) (ha : PA X [e, e2, e3] ta)
    (hs : starEach [e, e2, e3] X.env = (false, eval e X.env) :: starEach [e2, e3] X.env) (hpl : (backTo pos (starEach [e2, e3] X.env)).any (·.1) = false) :
    PI X (.Tuple elts kk tpos) (.Call (.Name "zip" p) [e, e2, e3] [] pos) (iZ3 X.K ta) := by
  refine ⟨fun pins s st H R I h => ?_⟩
  refine Call_ (ld_blt I hg hm PyProof.Rows.boot_zip (PyProof.Rows.callWith_type1 (thn (ha.run pos pins s st H _ I h) fun us s1 ⟨vs, H1, I1, r1, q1⟩ => ?_) hs hpl))
  obtain ⟨v1, v2, v3, c1, c2, c3, xs, ys, zs, rfl, k1, k2, k3, hx, hy, hw, q⟩ := q1
  obtain ⟨u1, u2, u3, rfl, r1, r2, r3⟩ := vals3 r1
  obtain ⟨o1, B1, b1, g1, f1⟩ := CK.begins I1 hx k1 r1
  obtain ⟨o2, B2, b2, g2, f2⟩ := CK.begins I1 hy k2 r2
  obtain ⟨o3, B3, b3, g3, f3⟩ := CK.begins I1 hw k3 r3
  refine zip_begins3 b1 b2 b3 g1 g2 g3 fun h' hz hI hO e1 e2 e3 hsz hk => wpAny_pyIter_zip hz ?_
  have J : Inv X pins st H1 { s1 with heap := h' } := I1.kept (t' := s1.toks) hk
  have l1 := CK.lt I1 hx
  have l2 := CK.lt I1 hy
  have l3 := CK.lt I1 hw
  refine ⟨_, [s1.heap.objs.size + 5, s1.heap.objs.size + 3, s1.heap.objs.size + 4, s1.heap.objs.size, s1.heap.objs.size + 1, s1.heap.objs.size + 2], _, _, H1, rfl, J,
    turn_z3 (zip_sep3 l1 l2 l3) (fun a ha => Nat.ne_of_lt (l1 a ha)) (fun a ha => Nat.ne_of_lt (Nat.lt_succ_of_lt (l2 a ha))) (fun a ha => Nat.ne_of_lt (Nat.lt_succ_of_lt (Nat.lt_succ_of_lt (l3 a ha)))), ⟨hz, hI, ⟨_, _, _, hO⟩, f1 _ _ e1, f2 _ _ e2, f3 _ _ e3⟩, fun c hcm => ?_, q⟩
  simp only [List.mem_cons, List.not_mem_nil, or_false] at hcm
  have hle : s1.heap.objs.size ≤ c := by rcases hcm with z | z | z | z | z | z <;> rw [z] <;> first | exact Nat.le_refl _ | exact Nat.le_add_right _ _
  exact I1.fpOk hle (I1.hok.fresh hle)
/-! ### enumerate -/
def Iten (K : PySem.W.Frag) (c : CK) : It :=
  ⟨fun i H => ∃ xs, c.has K H xs ∧ i < xs.length,
    fun i H v H' => ∃ a x, v = .ref a ∧ H a = none ∧ H' = upd H a (.tup [.int (i : Nat), x]) ∧ ∀ xs, c.has K H xs → xs[i]? = some x,
    fun i H => ∃ xs, c.has K H xs ∧ i = xs.length⟩
theorem turn_en {P : Program} {w : World} {K : PySem.W.Frag} {elts : List Expr} {kk : Nat} {tpos : Pos} {c : CK} {e it : Addr} (hei : e ≠ it) (hef : e ∉ it :: c.adr) (n1 : ∀ a ∈ c.adr, a ≠ it) :
    Turn P w K (.Tuple elts kk tpos) (Iten K c) [e, it] e (fun i h => (∃ old, IsEnum h e it (0 + (i : Int)) old) ∧ c.at_ it i h) where
  mem := by simp
  obj := fun i h t b hb => by
    obtain ⟨⟨old, he⟩, h1⟩ := t
    simp only [List.mem_cons, List.not_mem_nil, or_false] at hb
    rcases hb with q | q <;> rw [q]
    · exact ⟨_, he, fun v q => nomatch q⟩
    · exact CK.obj h1
  keep := fun i h h' t k => ⟨let ⟨old, he⟩ := t.1; ⟨old, k e (by simp) _ he⟩, CK.keep t.2 fun o q => k it (by simp) o q⟩
  item := by
    intro X hP hw hK hc i pins s st H E I hf t hg
    subst hP hw hK
    obtain ⟨he, h1⟩ := t
    obtain ⟨xs, hx, lx⟩ := hg
    obtain ⟨P1, T1, D1, s1, a1, v1⟩ := CK.draws I hc hx h1 n1
    have W := WalksT.enumFrom 0 D1 e hei hef (by simp)
    have old : ∀ b ∈ [e, it], b < s.heap.objs.size := fun b hb => by
      simp only [List.mem_cons, List.not_mem_nil, or_false] at hb
      obtain ⟨_, he'⟩ := he
      rcases hb with q | q <;> rw [q]
      · exact Heap.lt_size he'
      · obtain ⟨o, e, _⟩ := CK.obj h1; exact Heap.lt_size e
    refine thn (item_T (i := i) (Y := fun l => ∃ x, l = [.int (i : Nat), x] ∧ xs[i]? = some x) W I hf lx ⟨he, s1⟩ fun vals hp => ?_) fun r s' ⟨u, er, h⟩ => ⟨u, er, thn h fun _ s3 ⟨a, l, eu, J, na, sz, ⟨x, el, ex⟩, ⟨e', t1⟩, kp⟩ => ?_⟩
    · obtain ⟨t, x1, p1, rfl⟩ := hp
      obtain ⟨x, ex, rx⟩ := v1 i x1 p1
      exact ⟨[.int (i : Nat), x], .cons ⟨t, by simp⟩ (.cons rx .nil), by show 2 ≤ sizeLine; decide, x, rfl, ex⟩
    · subst eu; subst el
      refine ⟨.ref a, _, J, rfl, ⟨a, x, rfl, na, rfl, fun l hl => by rw [CK.inj I hl hx]; exact ex⟩, ⟨e', a1 _ _ t1⟩, fun b hb => ?_⟩
      have := old b hb
      rw [upd_ne (Nat.ne_of_lt (Nat.lt_of_lt_of_le this sz))]
      exact (hf b hb).1
  done := by
    intro X hP hw hK hc i pins s st H E I hf t hg
    subst hP hw hK
    obtain ⟨he, h1⟩ := t
    obtain ⟨xs, hx, ei⟩ := hg
    obtain ⟨P1, T1, D1, s1, a1, v1⟩ := CK.draws I hc hx h1 n1
    subst ei
    exact done_T (WalksT.enumFrom 0 D1 e hei hef (by simp)) I hf ⟨he, s1⟩
  self := fun A i s Q E t h => let ⟨_, he⟩ := t.1; wpAny_pyIter_enum he h
theorem meets_enum1 {v : Value} {o : Obj} {H : Heap → Prop} (B : Begins v o H) :
    Meets (Builtin.«enumerate.__new__» ⟨[.type "enumerate", v], []⟩) (fun _ R s => H s.heap ∧
      R (.ok (.ret (.ref (s.heap.push o).objs.size))) { s with heap := (s.heap.push o).push { cls := .type "enumerate", data := .fields #[.none, .bool false, .ref s.heap.objs.size, rawInt 0, .none, .none] } }) :=
  .of_wp fun prog w A R s h => by
    obtain ⟨hp, g, d, tk, os⟩ := s; obtain ⟨h1, h⟩ := h
    have hsub := sub_enumerate
    have begin_ : ∀ {A' : Around} {E : Value → Shared → Prop} {Q : Value → Shared → Prop}, Q (.ref hp.objs.size) ⟨hp.push o, g, d, tk, os⟩ → wpAny (model prog w) A' (pyIter v) Q E ⟨hp, g, d, tk, os⟩ :=
      fun q => B.iter prog w _ _ ⟨hp, g, d, tk, os⟩ _ h1 q
    wp_walk using begin_
    refine wpAny_stack_any fun st => wpAny_pure ?_
    split
    · rename_i c _ _ _ _ _
      cases (c == Value.type "enumerate") <;> (wp_walk using begin_; exact ⟨_, rfl, h⟩)
    · wp_walk using begin_
      exact ⟨_, rfl, h⟩
theorem enum_begins1 {prog : Program} {w : World} {A : Around} {E : Value → Shared → Prop} {s : Shared} {v : Value} {o : Obj} {H : Heap → Prop} {Q : Value → Shared → Prop} (B : Begins v o H) (h1 : H s.heap)
    (h : ∀ h', IsEnum h' (s.heap.objs.size + 1) s.heap.objs.size 0 .none → h'.get? s.heap.objs.size = some o → (∀ b o, s.heap.get? b = some o → h'.get? b = some o) → Q (.ref (s.heap.objs.size + 1)) { s with heap := h' }) :
    wpAny (model prog w) A (call (.type "enumerate") [v]) Q E s := by
  refine callType_new F.called_enumerate (by decide) (F.typeCall_enumerate_1 _) (F.newCall_enumerate_1 _) (fun obj => F.args_object_init_2 obj _) F.entry_enumerate_new
    (meets_enum1 B) ⟨h1, ?_⟩
  have hz : (s.heap.push o).objs.size = s.heap.objs.size + 1 := Heap.size_push ..
  have g1 := Heap.get?_push_size (s.heap.push o) (o := { cls := .type "enumerate", data := .fields #[.none, .bool false, .ref s.heap.objs.size, rawInt 0, .none, .none] }) rfl
  show _ ∧ _
  rw [hz] at g1 ⊢
  exact ⟨⟨_, g1, rfl⟩, h _ g1 (Heap.get?_push_of_some _ (Heap.get?_push_size _ B.free)) fun b o x => Heap.get?_push_of_some _ (Heap.get?_push_of_some _ x)⟩
def iEn (K : PySem.W.Frag) (ta : TA) : TI := fun st H R => ta st H fun vs H1 => ∃ v c xs, vs = [v] ∧ CK.is c v ∧ c.has K H1 xs ∧ R (Iten K c) H1
theorem pi_en {X : Cx} {e : Expr} {ta : TA} {p pos tpos : Pos} {elts : List Expr} {kk : Nat} (hg : Gl X "enumerate") (hm : X.mg "enumerate" = none) (ha : PA X [e] ta)
    (hs : starEach [e] X.env = [(false, eval e X.env)]) : PI X (.Tuple elts kk tpos) (.Call (.Name "enumerate" p) [e] [] pos) (iEn X.K ta) := by
  refine ⟨fun pins s st H R I h => ?_⟩
  refine Call_ (ld_blt I hg hm boot_enumerate (PyProof.Rows.callWith_type1 (thn (ha.run pos pins s st H _ I h) fun us s1 ⟨vs, H1, I1, r1, q1⟩ => ?_) hs rfl))
  obtain ⟨v, c, xs, rfl, k1, hx, q⟩ := q1
  obtain ⟨u, rfl, r2⟩ := L2.vals1 r1
  obtain ⟨o1, B1, b1, g1, f1⟩ := CK.begins I1 hx k1 r2
  refine enum_begins1 b1 g1 fun h' he e1 hk => wpAny_pyIter_enum he ?_
  have J : Inv X pins st H1 { s1 with heap := h' } := I1.kept (t' := s1.toks) hk
  have l1 := CK.lt I1 hx
  refine ⟨_, [s1.heap.objs.size + 1, s1.heap.objs.size], _, _, H1, rfl, J, turn_en (Nat.succ_ne_self _) (fun hm => ?_) (fun a ha => Nat.ne_of_lt (l1 a ha)), ⟨⟨.none, by simpa using he⟩, f1 _ _ e1⟩, fun b hcm => ?_, q⟩
  · rcases List.mem_cons.mp hm with z | z
    · exact Nat.succ_ne_self _ z
    · exact absurd (l1 _ z) (Nat.not_lt.mpr (Nat.le_succ _))
  · simp only [List.mem_cons, List.not_mem_nil, or_false] at hcm
    have hle : s1.heap.objs.size ≤ b := by rcases hcm with z | z <;> rw [z] <;> first | exact Nat.le_refl _ | exact Nat.le_add_right _ _
    exact I1.fpOk hle (I1.hok.fresh hle)
end Sx
set_option Elab.async false
set_option linter.all false
set_option maxHeartbeats 1000000
/-! Sx, part I: what is walked, comprehensions, statements. -/
namespace Sx
open PySem PySem.Spec PyProof.Rows L2

/-- the iterator J goes over these data in every later world -/
def Over (K : PySem.W.Frag) (J : It) (H : Hp) (S : Store) (F : Nat → Addr) (xs : List D) : Prop :=
  ∀ H2 S2 F2, Wok K H2 S2 F2 → Wle H S F H2 S2 F2 → J.stop xs.length H2 ∧
    ∀ i d, xs[i]? = some d → J.go i H2 ∧ ∀ x H3, J.yld i H2 x H3 → Wok K H3 S2 F2 ∧ Wle H2 S2 F2 H3 S2 F2 ∧ Da K H3 (Live S2 F2) x d
def RI (K : PySem.W.Frag) (Xq : XW) (f : Ev → Store → Out (List D)) : TI := fun st H R => EX K Xq st H f (fun xs S' F' H' => ∀ J, Over K J H' S' F' xs → R J H')
abbrev SI (X : Cx) (Xq : XW) (tg e : Expr) (f : Ev → Store → Out (List D)) : Prop := PI X tg e (RI X.K Xq f)
theorem _root_.L2.PI.weak {X : Cx} {tg e : Expr} {t u : TI} (h : PI X tg e t) (w : ∀ st H Q, u st H Q → t st H Q) : PI X tg e u := ⟨fun pins s st H Q I q => h.run pins s st H Q I (w st H Q q)⟩
section
variable {K : PySem.W.Frag} {H : Hp} {S : Store} {F : Nat → Addr}
theorem over_list {a : Addr} {ds : List D} (h : Da K H (Live S F) (.ref a) (.list ds)) : Over K (Itl K a) H S F ds := by
  intro H2 S2 F2 w2 l2
  obtain ⟨b, vs, e, hb, da⟩ := (Da.le l2 h).asL
  cases e
  refine ⟨⟨vs, SqL.of hb, by rw [da.length]; exact Nat.le_refl _⟩, fun i d hd => ?_⟩
  obtain ⟨v, hv, dv⟩ := da.get hd
  refine ⟨⟨vs, v, SqL.of hb, hv⟩, fun x H3 y => ?_⟩
  obtain ⟨rfl, y⟩ := y
  have := y vs (SqL.of hb)
  rw [hv] at this; cases this
  exact ⟨w2, .refl, dv⟩
theorem sqT_le {H2 : Hp} {S2 : Store} {F2 : Nat → Addr} {a : Addr} {ds : List D} (l2 : Wle H S F H2 S2 F2) (h : Da K H (Live S F) (.ref a) (.tuple ds)) : ∃ vs, SqT K H2 a vs ∧ DaAll K H2 (Live S2 F2) vs ds := by
  obtain ⟨b, vs, e, hb, da⟩ := (Da.le l2 h).asT
  cases e
  exact ⟨vs, hb, da⟩
theorem over_tup {a : Addr} {ds : List D} (h : Da K H (Live S F) (.ref a) (.tuple ds)) : Over K (Itt K a) H S F ds := by
  intro H2 S2 F2 w2 l2
  obtain ⟨vs, hb, da⟩ := sqT_le l2 h
  refine ⟨⟨vs, hb, by rw [da.length]; exact Nat.le_refl _⟩, fun i d hd => ?_⟩
  obtain ⟨v, hv, dv⟩ := da.get hd
  refine ⟨⟨vs, v, hb, hv⟩, fun x H3 y => ?_⟩
  obtain ⟨rfl, y⟩ := y
  have := y vs hb
  rw [hv] at this; cases this
  exact ⟨w2, .refl, dv⟩
theorem over_rng {lo : Int} {n : Nat} : Over K (Itr lo n) H S F ((List.range n).map fun (k : Nat) => .int (lo + k)) := by
  intro H2 S2 F2 w2 l2
  refine ⟨by simp [Itr], fun i d hd => ?_⟩
  have hi : i < n := by have := lt_of_get hd; simpa using this
  refine ⟨hi, fun x H3 y => ?_⟩
  obtain ⟨rfl, rfl⟩ := y
  have e : d = .int (lo + i) := by
    rw [List.getElem?_map, List.getElem?_range hi] at hd
    simpa using hd.symm
  subst e
  exact ⟨w2, .refl, .int _⟩
theorem over_str (z : Str) : Over K (Its z) H S F (z.cps.toList.map fun c => .str ⟨#[c]⟩) := by
  intro H2 S2 F2 w2 l2
  refine ⟨by simp [Its], fun i d hd => ?_⟩
  have hi : i < z.cps.size := by have := lt_of_get hd; simpa using this
  refine ⟨hi, fun x H3 y => ?_⟩
  obtain ⟨rfl, c, hc, rfl⟩ := y
  have e : d = .str ⟨#[c]⟩ := by
    rw [List.getElem?_map] at hd
    have hc' : z.cps.toList[i]? = some c := by simpa using hc
    rw [hc'] at hd
    simpa using hd.symm
  subst e
  exact ⟨w2, .refl, .str _⟩
/-- a datum that is walked by its kind -/
theorem ck_of {v : V} {d : D} {xs : List D} (h : Da K H (Live S F) v d) (e : itemsD d = some xs) :
    ∃ c, CK.is c v ∧ ∀ H2 S2 F2, Wle H S F H2 S2 F2 → ∃ vs, c.has K H2 vs ∧ DaAll K H2 (Live S2 F2) vs xs := by
  cases d <;> try (simp only [itemsD] at e; cases e; done)
  case list ds =>
    simp only [itemsD] at e; cases e
    obtain ⟨a, vs, rfl, _, _⟩ := h.asL
    refine ⟨.lst a, rfl, fun H2 S2 F2 l2 => ?_⟩
    obtain ⟨b, us, e, hb, da⟩ := (Da.le l2 h).asL
    cases e
    exact ⟨us, SqL.of hb, da⟩
  case tuple ds =>
    simp only [itemsD] at e; cases e
    obtain ⟨a, vs, rfl, _, _⟩ := h.asT
    exact ⟨.tup a, rfl, fun H2 S2 F2 l2 => sqT_le l2 h⟩
  case str z =>
    simp only [itemsD] at e
    split at e
    · cases e
      cases h
      refine ⟨.str z, rfl, fun H2 S2 F2 l2 => ⟨_, rfl, ?_⟩⟩
      induction z.cps.toList with
      | nil => exact .nil
      | cons c cs ih => exact .cons (.str _) ih
    · cases e
theorem zip2_get : ∀ {xs ys : List D} {i : Nat} {d : D}, (zip2 xs ys)[i]? = some d → ∃ x y, d = .tuple [x, y] ∧ xs[i]? = some x ∧ ys[i]? = some y
  | [], _, _, _, e => by simp [zip2] at e
  | _ :: _, [], _, _, e => by simp [zip2] at e
  | x :: xs, y :: ys, 0, d, e => by simp [zip2] at e; exact ⟨x, y, e.symm, rfl, rfl⟩
  | x :: xs, y :: ys, i + 1, d, e => by
    obtain ⟨a, b, h1, h2, h3⟩ := zip2_get (xs := xs) (ys := ys) (i := i) (d := d) (by simpa [zip2] using e)
    exact ⟨a, b, h1, by simpa using h2, by simpa using h3⟩
theorem zip2_len : ∀ {xs ys : List D}, (zip2 xs ys).length = min xs.length ys.length
  | [], _ => by simp [zip2]
  | _ :: _, [] => by simp [zip2]
  | x :: xs, y :: ys => by simp [zip2, zip2_len (xs := xs) (ys := ys)]
theorem zip3_get : ∀ {xs ys zs : List D} {i : Nat} {d : D}, (zip3 xs ys zs)[i]? = some d → ∃ x y z, d = .tuple [x, y, z] ∧ xs[i]? = some x ∧ ys[i]? = some y ∧ zs[i]? = some z
  | [], _, _, _, _, e => by simp [zip3] at e
  | _ :: _, [], _, _, _, e => by simp [zip3] at e
  | _ :: _, _ :: _, [], _, _, e => by simp [zip3] at e
  | x :: xs, y :: ys, z :: zs, 0, d, e => by simp [zip3] at e; exact ⟨x, y, z, e.symm, rfl, rfl, rfl⟩
  | x :: xs, y :: ys, z :: zs, i + 1, d, e => by
    obtain ⟨a, b, c, h1, h2, h3, h4⟩ := zip3_get (xs := xs) (ys := ys) (zs := zs) (i := i) (d := d) (by simpa [zip3] using e)
    exact ⟨a, b, c, h1, by simpa using h2, by simpa using h3, by simpa using h4⟩
theorem zip3_len : ∀ {xs ys zs : List D}, (zip3 xs ys zs).length = min (min xs.length ys.length) zs.length
  | [], _, _ => by simp [zip3]
  | _ :: _, [], _ => by simp [zip3]
  | _ :: _, _ :: _, [] => by simp [zip3]
  | x :: xs, y :: ys, z :: zs => by simp [zip3, zip3_len (xs := xs) (ys := ys) (zs := zs)]
theorem enum_get : ∀ {n : Nat} {xs : List D} {i : Nat} {d : D}, (enumFrom n xs)[i]? = some d → ∃ x, d = .tuple [.int ((n + i : Nat) : Int), x] ∧ xs[i]? = some x
  | _, [], _, _, e => by simp [enumFrom] at e
  | n, x :: xs, 0, d, e => by simp [enumFrom] at e; exact ⟨x, by rw [← e]; rfl, rfl⟩
  | n, x :: xs, i + 1, d, e => by
    obtain ⟨a, h1, h2⟩ := enum_get (n := n + 1) (xs := xs) (i := i) (d := d) (by simpa [enumFrom] using e)
    exact ⟨a, by rw [h1]; congr 3; omega, by simpa using h2⟩
theorem enum_len : ∀ {n : Nat} {xs : List D}, (enumFrom n xs).length = xs.length
  | _, [] => rfl
  | n, x :: xs => by simp [enumFrom, enum_len (n := n + 1) (xs := xs)]
theorem over_z2 {c1 c2 : CK} {xs ys : List D} (h1 : ∀ H2 S2 F2, Wle H S F H2 S2 F2 → ∃ vs, c1.has K H2 vs ∧ DaAll K H2 (Live S2 F2) vs xs) (h2 : ∀ H2 S2 F2, Wle H S F H2 S2 F2 → ∃ vs, c2.has K H2 vs ∧ DaAll K H2 (Live S2 F2) vs ys) :
    Over K (Itz2 K c1 c2) H S F (zip2 xs ys) := by
  intro H2 S2 F2 w2 l2
  obtain ⟨vs, k1, d1⟩ := h1 _ _ _ l2
  obtain ⟨us, k2, d2⟩ := h2 _ _ _ l2
  refine ⟨⟨vs, us, k1, k2, by rw [zip2_len, d1.length, d2.length]⟩, fun i d hd => ?_⟩
  obtain ⟨x, y, rfl, hx, hy⟩ := zip2_get hd
  obtain ⟨v, hv, dv⟩ := d1.get hx
  obtain ⟨u, hu, du⟩ := d2.get hy
  refine ⟨⟨vs, us, k1, k2, lt_of_get hv, lt_of_get hu⟩, fun x H3 y => ?_⟩
  obtain ⟨a, x1, y1, rfl, ha, rfl, q1, q2⟩ := y
  have e1 := q1 vs k1
  have e2 := q2 us k2
  rw [hv] at e1; cases e1
  rw [hu] at e2; cases e2
  obtain ⟨w3, l3⟩ := w2.alloc (o := .tup [v, u]) ha
  exact ⟨w3, l3, .tup (.inl upd_same) (w2.notLive ha) (.cons (dv.le l3) (.cons (du.le l3) .nil))⟩
theorem over_z3 {c1 c2 c3 : CK} {xs ys zs : List D} (h1 : ∀ H2 S2 F2, Wle H S F H2 S2 F2 → ∃ vs, c1.has K H2 vs ∧ DaAll K H2 (Live S2 F2) vs xs) (h2 : ∀ H2 S2 F2, Wle H S F H2 S2 F2 → ∃ vs, c2.has K H2 vs ∧ DaAll K H2 (Live S2 F2) vs ys)
    (h3 : ∀ H2 S2 F2, Wle H S F H2 S2 F2 → ∃ vs, c3.has K H2 vs ∧ DaAll K H2 (Live S2 F2) vs zs) :
    Over K (Itz3 K c1 c2 c3) H S F (zip3 xs ys zs) := by
  intro H2 S2 F2 w2 l2
  obtain ⟨vs, k1, d1⟩ := h1 _ _ _ l2
  obtain ⟨us, k2, d2⟩ := h2 _ _ _ l2
  obtain ⟨ws, k3, d3⟩ := h3 _ _ _ l2
  refine ⟨⟨vs, us, ws, k1, k2, k3, by rw [zip3_len, d1.length, d2.length, d3.length]⟩, fun i d hd => ?_⟩
  obtain ⟨x, y, z, rfl, hx, hy, hz⟩ := zip3_get hd
  obtain ⟨v, hv, dv⟩ := d1.get hx
  obtain ⟨u, hu, du⟩ := d2.get hy
  obtain ⟨t, ht, dt⟩ := d3.get hz
  refine ⟨⟨vs, us, ws, k1, k2, k3, lt_of_get hv, lt_of_get hu, lt_of_get ht⟩, fun x H3 y => ?_⟩
  obtain ⟨a, x1, y1, z1, rfl, ha, rfl, q1, q2, q3⟩ := y
  have e1 := q1 vs k1
  have e2 := q2 us k2
  have e3 := q3 ws k3
  rw [hv] at e1; cases e1
  rw [hu] at e2; cases e2
  rw [ht] at e3; cases e3
  obtain ⟨w3, l3⟩ := w2.alloc (o := .tup [v, u, t]) ha
  exact ⟨w3, l3, .tup (.inl upd_same) (w2.notLive ha) (.cons (dv.le l3) (.cons (du.le l3) (.cons (dt.le l3) .nil)))⟩
theorem over_en {c1 : CK} {xs : List D} (h1 : ∀ H2 S2 F2, Wle H S F H2 S2 F2 → ∃ vs, c1.has K H2 vs ∧ DaAll K H2 (Live S2 F2) vs xs) : Over K (Iten K c1) H S F (enumFrom 0 xs) := by
  intro H2 S2 F2 w2 l2
  obtain ⟨vs, k1, d1⟩ := h1 _ _ _ l2
  refine ⟨⟨vs, k1, by rw [enum_len, d1.length]⟩, fun i d hd => ?_⟩
  obtain ⟨x, rfl, hx⟩ := enum_get hd
  obtain ⟨v, hv, dv⟩ := d1.get hx
  refine ⟨⟨vs, k1, lt_of_get hv⟩, fun x H3 y => ?_⟩
  obtain ⟨a, x1, rfl, ha, rfl, q1⟩ := y
  have e1 := q1 vs k1
  rw [hv] at e1; cases e1
  obtain ⟨w3, l3⟩ := w2.alloc (o := .tup [.int (i : Nat), v]) ha
  rw [Nat.zero_add]
  exact ⟨w3, l3, .tup (.inl upd_same) (w2.notLive ha) (.cons (.int _) (.cons (dv.le l3) .nil))⟩
end
section
variable {X : Cx} {Xq : XW} {a b c tg : Expr} {pos p : Pos} {fa fb fc : Fe} {es : List Expr} {fl : Ev → Store → Out (List R)}
/-- a value walked -/
theorem si_val (ha : SE X Xq a fa) : SI X Xq tg a (fun e S => (fa e S).bind fun x S1 => lift ((pureD x).bind itemsD) S1) := by
  refine ⟨fun pins s st H R I h => ?_⟩
  obtain ⟨e, S, F, w, re, p⟩ := h
  replace p : Post X.K Xq H S F ((fa e S).bind fun x S1 => lift ((pureD x).bind itemsD) S1) fun xs S' F' H' => ∀ J, Over X.K J H' S' F' xs → R J H' := p
  have go : ∀ {x : D} {xs : List D} {S1 : Store} {P : V → Hp → Prop}, fa e S = .ok (.d x) S1 → itemsD x = some xs → (∀ F1 H1 v, Da X.K H1 (Live S1 F1) v x → (∀ J, Over X.K J H1 S1 F1 xs → R J H1) → P v H1) → RE X.K Xq fa st H P := fun {x xs S1 P} ex hx k => by
    refine ⟨e, S, F, w, re, ?_⟩
    rw [ex] at p ⊢
    simp only [Out.bind_ok, pureD_d, Option.bind_some, hx, lift_some] at p
    exact fun H1 F1 w1 l1 v hv => k F1 H1 v hv (p H1 F1 w1 l1)
  cases hfa : fa e S with
  | bad => rw [hfa] at p; exact p.elim
  | exc y S1 =>
    rw [hfa] at p
    exact (pi_list ha).run pins s st H R I ⟨e, S, F, w, re, by rw [hfa]; exact p⟩
  | ok x S1 =>
    cases x with
    | ref i => rw [hfa] at p; exact p.elim
    | d x =>
      cases hd : itemsD x with
      | none => rw [hfa] at p; simp only [Out.bind_ok, pureD_d, Option.bind_some, hd] at p; exact p.elim
      | some xs =>
        have hd' := hd
        cases x <;> try (simp only [itemsD] at hd; cases hd; done)
        case list ds =>
          simp only [itemsD] at hd; cases hd
          refine (pi_list ha).run pins s st H R I (go hfa rfl fun F1 H1 v hv q => ?_)
          obtain ⟨b, vs, rfl, hb, da⟩ := hv.asL
          exact ⟨b, rfl, ⟨vs, SqL.of hb⟩, q _ (over_list hv)⟩
        case tuple ds =>
          simp only [itemsD] at hd; cases hd
          refine (pi_tup ha).run pins s st H R I (go hfa rfl fun F1 H1 v hv q => ?_)
          obtain ⟨b, vs, rfl, hb, da⟩ := hv.asT
          exact ⟨b, rfl, ⟨vs, hb⟩, q _ (over_tup hv)⟩
        case str z =>
          simp only [itemsD] at hd
          split at hd
          · cases hd
            refine (pi_str ha).run pins s st H R I (go hfa hd' fun F1 H1 v hv q => ?_)
            cases hv
            exact ⟨z, rfl, q _ (over_str z)⟩
          · cases hd
theorem rng_at {K : PySem.W.Frag} {H : Hp} {S : Store} {F : Nat → Addr} {vs : List V} {ds : List D} {xs : List D} (h : DtAll K H (Live S F) vs ds) (e : rngD ds = some xs) :
    (∃ j, vs = [.int j] ∧ -(2 ^ 62) ≤ j ∧ j < 2 ^ 62 ∧ Over K (Itr 0 j.toNat) H S F xs) ∨ ∃ i j, vs = [.int i, .int j] ∧ (-(2 ^ 62) ≤ i ∧ i < 2 ^ 62 ∧ -(2 ^ 62) ≤ j ∧ j < 2 ^ 62) ∧ Over K (Itr i (j - i).toNat) H S F xs := by
  unfold rngD at e
  split at e
  · rename_i j
    split at e
    · rename_i hz; cases e
      simp only [rngOk, Bool.and_eq_true, decide_eq_true_eq] at hz
      obtain ⟨v, rfl, h1⟩ := dt1 h
      cases h1.int
      refine .inl ⟨j, rfl, hz.1, hz.2, ?_⟩
      have := over_rng (K := K) (H := H) (S := S) (F := F) (lo := 0) (n := j.toNat)
      simpa using this
    · cases e
  · rename_i i j
    split at e
    · rename_i hz; cases e
      simp only [rngOk, Bool.and_eq_true, decide_eq_true_eq] at hz
      obtain ⟨v, u, rfl, h1, h2⟩ := dt2 h
      cases h1.int; cases h2.int
      exact .inr ⟨i, j, rfl, ⟨hz.1.1, hz.1.2, hz.2.1, hz.2.2⟩, over_rng⟩
    · cases e
  · cases e
theorem sa_len1 (ha : SE X Xq a fa) (hs : starEach [a] X.env = [(false, eval a X.env)]) : SA X Xq [a] (fun e S => (fa e S).bind fun x S1 => Out.ok [x] S1) :=
  (pa_cons ha pa_nil (by rw [hs]; rfl)).weak fun st H Q h => by
    obtain ⟨e, S, F, w, re, p⟩ := h
    exact ⟨e, S, F, w, re, p.bind.imp fun x S1 F1 H1 w1 l1 p1 v hv => p1.ok w1 _ (.cons hv .nil)⟩
theorem si_rng1 (hg : Gl X "range") (hm : X.mg "range" = none) (ha : SE X Xq a fa) (hs : starEach [a] X.env = [(false, eval a X.env)]) : SI X Xq tg (.Call (.Name "range" p) [a] [] pos) (fun e S => (fa e S).bind fun x S1 => lift ((asDs S1 [x]).bind rngD) S1) :=
  (pi_range1 hg hm (pa_cons ha pa_nil (by rw [hs]; rfl)) hs).weak fun st H R h => EX.e (g := fun e x S1 => lift ((asDs S1 [x]).bind rngD) S1) h fun e x S1 F1 H1 v w re hv q => by
    obtain ⟨xs, ex, q⟩ := Post.lift w q
    rw [Option.bind_eq_some_iff] at ex
    obtain ⟨ds, e1, e2⟩ := ex
    rcases rng_at (asDs_ok w (.cons hv .nil) e1) e2 with ⟨j, ej, h1, h2, o⟩ | ⟨i, j, ej, _⟩
    · exact ⟨j, ej, h1, h2, q _ o⟩
    · cases ej
theorem si_rng2 (hg : Gl X "range") (hm : X.mg "range" = none) (ha : SE X Xq a fa) (hb : SE X Xq b fb) (hs : starEach [a, b] X.env = [(false, eval a X.env), (false, eval b X.env)]) (hs2 : starEach [b] X.env = [(false, eval b X.env)]) :
    SI X Xq tg (.Call (.Name "range" p) [a, b] [] pos) (fun e S => (fa e S).bind fun x S1 => (fb e S1).bind fun y S2 => lift ((asDs S2 [x, y]).bind rngD) S2) :=
  (pi_range2 hg hm (pa_cons ha (pa_cons hb pa_nil (by rw [hs2]; rfl)) (by rw [hs, hs2])) hs hs2).weak fun st H R h => EX.e2 (g := fun e x y S1 => lift ((asDs S1 [x, y]).bind rngD) S1) h fun e x y S1 F1 H1 v u w re hv hu q => by
    obtain ⟨xs, ex, q⟩ := Post.lift w q
    rw [Option.bind_eq_some_iff] at ex
    obtain ⟨ds, e1, e2⟩ := ex
    rcases rng_at (asDs_ok w (.cons hv (.cons hu .nil)) e1) e2 with ⟨j, ej, _⟩ | ⟨i, j, ej, h1, o⟩
    · cases ej
    · exact ⟨i, j, ej, h1, q _ o⟩
theorem rngL_at {K : PySem.W.Frag} {H : Hp} {S : Store} {F : Nat → Addr} {vs : List V} {ds : List D} {z : D} (h : DtAll K H (Live S F) vs ds) (e : rngL ds = some z) :
    ∃ i j, ((vs = [.int j] ∧ i = 0) ∨ vs = [.int i, .int j]) ∧ RgOk i j ∧ z = .list ((List.range (j - i).toNat).map fun (k : Nat) => .int (i + k)) := by
  unfold rngL at e
  rw [Option.bind_eq_some_iff] at e
  obtain ⟨xs, e1, e2⟩ := e
  split at e2
  · rename_i hz; cases e2
    rw [decide_eq_true_eq] at hz
    unfold rngD at e1
    split at e1
    · rename_i j
      split at e1
      · rename_i hr; cases e1
        simp only [rngOk, Bool.and_eq_true, decide_eq_true_eq] at hr
        rw [List.length_map, List.length_range] at hz
        obtain ⟨v, rfl, h1⟩ := dt1 h
        cases h1.int
        exact ⟨0, j, .inl ⟨rfl, rfl⟩, ⟨by omega, by omega, hr.1, hr.2, by omega⟩, by simp⟩
      · cases e1
    · rename_i i j
      split at e1
      · rename_i hr; cases e1
        simp only [rngOk, Bool.and_eq_true, decide_eq_true_eq] at hr
        rw [List.length_map, List.length_range] at hz
        obtain ⟨v, u, rfl, h1, h2⟩ := dt2 h
        cases h1.int; cases h2.int
        exact ⟨i, j, .inr rfl, ⟨hr.1.1, hr.1.2, hr.2.1, hr.2.2, by omega⟩, rfl⟩
      · cases e1
    · cases e1
  · cases e2
theorem da_rg {K : PySem.W.Frag} {H : Hp} {P : Addr → Prop} {i : Int} : ∀ ks : List Nat, DaAll K H P (ks.map fun k => V.int (i + (k : Nat))) (ks.map fun (k : Nat) => .int (i + k))
  | [] => .nil
  | k :: ks => .cons (.int _) (da_rg ks)
theorem se_lrng1 {q qos : Pos} (hc : X.calm = true) (hl : Gl X "list") (hml : X.mg "list" = none) (hg : Gl X "range") (hm : X.mg "range" = none) (ha : SE X Xq a fa) (hs : starEach [a] X.env = [(false, eval a X.env)]) :
    SE X Xq (.Call (.Name "list" q) [.Call (.Name "range" p) [a] [] pos] [] qos) (fun e S => (fa e S).bind fun x S1 => lift ((asDs S1 [x]).bind fun ds => (rngL ds).map R.d) S1) :=
  (pe_listRg hc hl hml (prg_1 hg hm ha hs)).weak fun st H Q h => EX.e (g := fun e x S1 => lift ((asDs S1 [x]).bind fun ds => (rngL ds).map R.d) S1) h fun e x S1 F1 H1 v w re hv p => by
    obtain ⟨r, er, q⟩ := Post.lift w p
    rw [er] at p
    rw [Option.bind_eq_some_iff] at er
    obtain ⟨ds, e1, e2⟩ := er
    rw [Option.map_eq_some_iff] at e2
    obtain ⟨z, e2, rfl⟩ := e2
    obtain ⟨i, j, ej, ok, rfl⟩ := rngL_at (asDs_ok w (.cons hv .nil) e1) e2
    rcases ej with ⟨ej, rfl⟩ | ej
    · cases ej
      refine ⟨j, rfl, ok, fun a ha => ?_⟩
      obtain ⟨w1, l1⟩ := w.alloc (o := .lst (rgV 0 j)) ha
      exact p.at_ w1 l1 _ (.lst upd_same (w.notLive ha) (da_rg _))
    · cases ej
theorem se_lrng2 {q qos : Pos} (hc : X.calm = true) (hl : Gl X "list") (hml : X.mg "list" = none) (hg : Gl X "range") (hm : X.mg "range" = none) (ha : SE X Xq a fa) (hb : SE X Xq b fb) (hs : starEach [a, b] X.env = [(false, eval a X.env), (false, eval b X.env)]) (hs2 : starEach [b] X.env = [(false, eval b X.env)]) :
    SE X Xq (.Call (.Name "list" q) [.Call (.Name "range" p) [a, b] [] pos] [] qos) (fun e S => (fa e S).bind fun x S1 => (fb e S1).bind fun y S2 => lift ((asDs S2 [x, y]).bind fun ds => (rngL ds).map R.d) S2) :=
  (pe_listRg hc hl hml (prg_2 hg hm ha hb (by rw [hs, hs2]) (by rw [hs2]; rfl) (by rw [hs2]; rfl))).weak fun st H Q h => EX.e2 (g := fun e x y S1 => lift ((asDs S1 [x, y]).bind fun ds => (rngL ds).map R.d) S1) h fun e x y S1 F1 H1 v u w re hv hu p => by
    obtain ⟨r, er, q⟩ := Post.lift w p
    rw [er] at p
    rw [Option.bind_eq_some_iff] at er
    obtain ⟨ds, e1, e2⟩ := er
    rw [Option.map_eq_some_iff] at e2
    obtain ⟨z, e2, rfl⟩ := e2
    obtain ⟨i, j, ej, ok, rfl⟩ := rngL_at (asDs_ok w (.cons hv (.cons hu .nil)) e1) e2
    rcases ej with ⟨ej, rfl⟩ | ej
    · cases ej
    · cases ej
      refine ⟨i, j, rfl, rfl, ok, fun a ha => ?_⟩
      obtain ⟨w1, l1⟩ := w.alloc (o := .lst (rgV i j)) ha
      exact p.at_ w1 l1 _ (.lst upd_same (w.notLive ha) (da_rg _))
theorem si_zip2 {elts : List Expr} {kk : Nat} {tpos : Pos} (hg : Gl X "zip") (hm : X.mg "zip" = none) (ha : SE X Xq a fa) (hb : SE X Xq b fb) (hs : starEach [a, b] X.env = (false, eval a X.env) :: starEach [b] X.env) (hs2 : starEach [b] X.env = [(false, eval b X.env)]) :
    SI X Xq (.Tuple elts kk tpos) (.Call (.Name "zip" p) [a, b] [] pos) (fun e S => (fa e S).bind fun x S1 => (fb e S1).bind fun y S2 => lift ((pureDs [x, y]).bind zipD) S2) :=
  (pi_z2 hg hm (pa_cons ha (pa_cons hb pa_nil (by rw [hs2]; rfl)) hs) hs (by rw [hs2]; rfl)).weak fun st H R h => EX.e2 (g := fun e x y S1 => lift ((pureDs [x, y]).bind zipD) S1) h fun e x y S1 F1 H1 v u w re hv hu q => by
    obtain ⟨xs, ex, q⟩ := Post.lift w q
    rw [Option.bind_eq_some_iff] at ex
    obtain ⟨ds, e1, e2⟩ := ex
    have d := pureDs_ok (.cons hv (.cons hu .nil)) e1
    cases d with
    | cons d1 d => cases d with
      | cons d2 d =>
        cases d
        simp only [zipD, Option.bind_eq_some_iff, Option.map_eq_some_iff] at e2
        obtain ⟨x1, i1, y1, i2, rfl⟩ := e2
        obtain ⟨c1, k1, p1⟩ := ck_of d1 i1
        obtain ⟨c2, k2, p2⟩ := ck_of d2 i2
        obtain ⟨v1, g1, _⟩ := p1 _ _ _ .refl
        obtain ⟨v2, g2, _⟩ := p2 _ _ _ .refl
        exact ⟨v, u, c1, c2, v1, v2, rfl, k1, k2, g1, g2, q _ (over_z2 p1 p2)⟩
theorem si_zip3 {elts : List Expr} {kk : Nat} {tpos : Pos} (hg : Gl X "zip") (hm : X.mg "zip" = none) (ha : SE X Xq a fa) (hb : SE X Xq b fb) (hc : SE X Xq c fc) (hs : starEach [a, b, c] X.env = (false, eval a X.env) :: starEach [b, c] X.env)
    (hs1 : starEach [b, c] X.env = (false, eval b X.env) :: starEach [c] X.env) (hs2 : starEach [c] X.env = [(false, eval c X.env)]) :
    SI X Xq (.Tuple elts kk tpos) (.Call (.Name "zip" p) [a, b, c] [] pos) (fun e S => (fa e S).bind fun x S1 => (fb e S1).bind fun y S2 => (fc e S2).bind fun z S3 => lift ((pureDs [x, y, z]).bind zipD) S3) :=
  (pi_z3 hg hm (pa_cons ha (pa_cons hb (pa_cons hc pa_nil (by rw [hs2]; rfl)) hs1) hs) hs (by rw [hs1, hs2]; rfl)).weak fun st H R h => by
    obtain ⟨e, S, F, w, re, pp⟩ := h
    refine ⟨e, S, F, w, re, pp.bind.imp fun x S1 F1 H1 w1 l1 pp1 v hv => ?_⟩
    refine ⟨e, S1, F1, w1, re.le l1, pp1.bind.imp fun y S2 F2 H2 w2 l2 pp2 u hu => ?_⟩
    refine ⟨e, S2, F2, w2, (re.le l1).le l2, pp2.bind.imp fun z S3 F3 H3 w3 l3 pp3 t ht => ?_⟩
    obtain ⟨xs, ex, q⟩ := Post.lift w3 pp3
    rw [Option.bind_eq_some_iff] at ex
    obtain ⟨ds, e1, e2⟩ := ex
    have d := pureDs_ok (.cons ((hv.le l2).le l3) (.cons (hu.le l3) (.cons ht .nil))) e1
    cases d with
    | cons d1 d => cases d with
      | cons d2 d => cases d with
        | cons d3 d =>
          cases d
          simp only [zipD, Option.bind_eq_some_iff, Option.map_eq_some_iff] at e2
          obtain ⟨x1, i1, y1, i2, z1, i3, rfl⟩ := e2
          obtain ⟨c1, k1, p1⟩ := ck_of d1 i1
          obtain ⟨c2, k2, p2⟩ := ck_of d2 i2
          obtain ⟨c3, k3, p3⟩ := ck_of d3 i3
          obtain ⟨v1, g1, _⟩ := p1 _ _ _ .refl
          obtain ⟨v2, g2, _⟩ := p2 _ _ _ .refl
          obtain ⟨v3, g3, _⟩ := p3 _ _ _ .refl
          exact ⟨v, u, t, c1, c2, c3, v1, v2, v3, rfl, k1, k2, k3, g1, g2, g3, q _ (over_z3 p1 p2 p3)⟩
theorem si_enum {elts : List Expr} {kk : Nat} {tpos : Pos} (hg : Gl X "enumerate") (hm : X.mg "enumerate" = none) (ha : SE X Xq a fa) (hs : starEach [a] X.env = [(false, eval a X.env)]) :
    SI X Xq (.Tuple elts kk tpos) (.Call (.Name "enumerate" p) [a] [] pos) (fun e S => (fa e S).bind fun x S1 => lift ((pureD x).bind enumD) S1) :=
  (pi_en hg hm (pa_cons ha pa_nil (by rw [hs]; rfl)) hs).weak fun st H R h => EX.e (g := fun e x S1 => lift ((pureD x).bind enumD) S1) h fun e x S1 F1 H1 v w re hv q => by
    obtain ⟨xs, ex, q⟩ := Post.lift w q
    rw [Option.bind_eq_some_iff] at ex
    obtain ⟨d, e1, e2⟩ := ex
    cases x with
    | ref i => cases e1
    | d x =>
      cases e1
      simp only [enumD, Option.map_eq_some_iff] at e2
      obtain ⟨x1, i1, rfl⟩ := e2
      obtain ⟨c1, k1, p1⟩ := ck_of hv i1
      obtain ⟨v1, g1, _⟩ := p1 _ _ _ .refl
      exact ⟨v, c1, v1, rfl, k1, g1, q _ (over_en p1)⟩
end
end Sx
set_option Elab.async false
set_option linter.all false
set_option maxRecDepth 100000
set_option maxHeartbeats 3200000
/-! Sx, part Ts: sorted(set(xs)), xs a list of tuples of ints of any sign, few of them unlike. -/
namespace Sx
open PySem PySem.Spec PyProof.Rows L2

/-! ### the order -/
theorem lex_irr : ∀ x : List Int, lexLt x x = false
  | [] => rfl
  | a :: as => by simp [lexLt, lex_irr as]
theorem lex_tri : ∀ x y : List Int, x = y ∨ lexLt x y = true ∨ lexLt y x = true
  | [], [] => .inl rfl
  | [], _ :: _ => .inr (.inl rfl)
  | _ :: _, [] => .inr (.inr rfl)
  | a :: as, b :: bs => by
    by_cases e : a = b
    · subst e
      rcases lex_tri as bs with h | h | h
      · exact .inl (by rw [h])
      · exact .inr (.inl (by simpa [lexLt] using h))
      · exact .inr (.inr (by simpa [lexLt] using h))
    · by_cases l : a < b
      · exact .inr (.inl (by simp [lexLt, e, l]))
      · exact .inr (.inr (by
          have e' : b ≠ a := fun z => e z.symm
          have : b < a := by omega
          simp [lexLt, e', this]))
theorem lex_trans : ∀ x y z : List Int, lexLt x y = true → lexLt y z = true → lexLt x z = true
  | [], [], _, h, _ => by simp [lexLt] at h
  | [], _ :: _, [], _, h => by simp [lexLt] at h
  | [], _ :: _, _ :: _, _, _ => rfl
  | _ :: _, [], _, h, _ => by simp [lexLt] at h
  | _ :: _, _ :: _, [], _, h => by simp [lexLt] at h
  | a :: as, b :: bs, c :: cs, h, k => by
    by_cases e : a = b
    · subst e
      by_cases f : a = c
      · subst f
        simp only [lexLt, if_true] at h k ⊢
        exact lex_trans as bs cs h k
      · simp only [lexLt, if_neg f] at k ⊢; exact k
    · by_cases f : b = c
      · subst f
        simp only [lexLt, if_neg e] at h ⊢; exact h
      · simp only [lexLt, if_neg e, if_neg f, decide_eq_true_eq] at h k
        have l : a < c := by omega
        have g : a ≠ c := by omega
        simp [lexLt, g, l]
theorem lex_asym {x y : List Int} (h : lexLt x y = true) : lexLt y x = false := by
  cases e : lexLt y x with
  | false => rfl
  | true => have := lex_trans x y x h e; rw [lex_irr] at this; cases this
theorem mem_insL {x z : List Int} : ∀ {l : List (List Int)}, z ∈ insL x l ↔ z = x ∨ z ∈ l
  | [] => by simp [insL]
  | y :: ys => by
    have ih := mem_insL (x := x) (z := z) (l := ys)
    unfold insL
    by_cases e : x = y
    · rw [if_pos e, e]; simp
    · rw [if_neg e]
      split
      · simp
      · simp only [List.mem_cons, ih]
        constructor
        · rintro (h | h | h) <;> simp [h]
        · rintro (h | h | h) <;> simp [h]
theorem mem_ssetL {z : List Int} : ∀ {l : List (List Int)}, z ∈ ssetL l ↔ z ∈ l
  | [] => Iff.rfl
  | x :: xs => by rw [ssetL, mem_insL, mem_ssetL (l := xs), List.mem_cons]
abbrev SoL (l : List (List Int)) : Prop := l.Pairwise fun x y => lexLt x y = true
theorem so_insL {x : List Int} : ∀ {l : List (List Int)}, SoL l → SoL (insL x l)
  | [], _ => by simp [insL, SoL]
  | y :: ys, h => by
    obtain ⟨h1, h2⟩ := List.pairwise_cons.mp h
    unfold insL
    by_cases e : x = y
    · rw [if_pos e]; exact h
    · rw [if_neg e]
      split
      · rename_i l
        refine List.pairwise_cons.mpr ⟨fun z hz => ?_, h⟩
        rcases List.mem_cons.mp hz with rfl | hz
        · exact l
        · exact lex_trans _ _ _ l (h1 z hz)
      · rename_i l
        refine List.pairwise_cons.mpr ⟨fun z hz => ?_, so_insL h2⟩
        rcases mem_insL.mp hz with rfl | hz
        · rcases lex_tri z y with q | q | q
          · exact absurd q e
          · exact absurd q l
          · exact q
        · exact h1 z hz
theorem so_ssetL : ∀ l : List (List Int), SoL (ssetL l)
  | [] => .nil
  | x :: xs => so_insL (so_ssetL xs)
theorem so_nodup {l : List (List Int)} (h : SoL l) : l.Nodup := h.imp fun {x y} q e => by rw [e, lex_irr] at q; cases q
/-- sorted lists of the same are the same -/
theorem so_eq : ∀ {l m : List (List Int)}, SoL l → SoL m → (∀ x, x ∈ l ↔ x ∈ m) → l = m
  | [], [], _, _, _ => rfl
  | [], y :: ys, _, _, h => absurd ((h y).mpr List.mem_cons_self) (by simp)
  | x :: xs, [], _, _, h => absurd ((h x).mp List.mem_cons_self) (by simp)
  | x :: xs, y :: ys, hl, hm, h => by
    obtain ⟨a1, a2⟩ := List.pairwise_cons.mp hl
    obtain ⟨b1, b2⟩ := List.pairwise_cons.mp hm
    have e : x = y := by
      rcases List.mem_cons.mp ((h x).mp List.mem_cons_self) with q | q
      · exact q
      · rcases List.mem_cons.mp ((h y).mpr List.mem_cons_self) with r | r
        · exact r.symm
        · have := lex_asym (b1 x q); rw [a1 y r] at this; cases this
    subst e
    rw [so_eq a2 b2 fun z => ⟨fun hz => ?_, fun hz => ?_⟩]
    · rcases List.mem_cons.mp ((h z).mp (List.mem_cons_of_mem _ hz)) with q | q
      · have := a1 z hz; rw [q, lex_irr] at this; cases this
      · exact q
    · rcases List.mem_cons.mp ((h z).mpr (List.mem_cons_of_mem _ hz)) with q | q
      · have := b1 z hz; rw [q, lex_irr] at this; cases this
      · exact q

/-! ### the rank: the code of what is moved up -/
def shI (C : Int) (ns : List Int) : List Int := ns.map (· + C)
theorem shI_len (C : Int) (ns : List Int) : (shI C ns).length = ns.length := List.length_map _
theorem code_lex {B C : Int} : ∀ (ns ms : List Int), ns.length = ms.length → TS.Bd B (shI C ns) → TS.Bd B (shI C ms) → (TS.code B (shI C ns) < TS.code B (shI C ms) ↔ lexLt ns ms = true)
  | [], [], _, _, _ => by simp [shI, lexLt]
  | [], _ :: _, h, _, _ => by simp at h
  | _ :: _, [], h, _, _ => by simp at h
  | a :: as, b :: bs, hl, h1, h2 => by
    have hl' : as.length = bs.length := by simpa using hl
    have hs : (shI C as).length = (shI C bs).length := by rw [shI_len, shI_len, hl']
    have t1 : TS.Bd B (shI C as) := h1.tail
    have t2 : TS.Bd B (shI C bs) := h2.tail
    by_cases e : a = b
    · subst e
      simp only [lexLt, if_true]
      exact (TS.code_same hs).trans (code_lex as bs hl' t1 t2)
    · simp only [lexLt, if_neg e, decide_eq_true_eq]
      constructor
      · intro q
        rcases Int.lt_trichotomy a b with l | l | l
        · exact l
        · exact absurd l e
        · have := TS.code_lt (B := B) (d := b + C) (e := a + C) hs.symm t2 t1 (by omega)
          have q' : TS.code B ((a + C) :: shI C as) < TS.code B ((b + C) :: shI C bs) := q
          omega
      · intro l
        exact TS.code_lt (B := B) (d := a + C) (e := b + C) hs t1 t2 (by omega)
theorem bd_some : ∀ L : List (List Int), ∃ C : Int, 0 ≤ C ∧ ∀ ns ∈ L, ∀ m ∈ ns, -C ≤ m ∧ m < C
  | [] => ⟨0, Int.le_refl _, fun _ h => by cases h⟩
  | ns :: L => by
    obtain ⟨C, h0, hC⟩ := bd_some L
    have one : ∀ ns : List Int, ∃ C : Int, 0 ≤ C ∧ ∀ m ∈ ns, -C ≤ m ∧ m < C := by
      intro ns
      induction ns with
      | nil => exact ⟨0, Int.le_refl _, fun _ h => by cases h⟩
      | cons m ms ih =>
        obtain ⟨c, h1, h2⟩ := ih
        refine ⟨c + m.natAbs + 1, by omega, fun k hk => ?_⟩
        rcases List.mem_cons.mp hk with rfl | hk
        · omega
        · have := h2 k hk; omega
    obtain ⟨c, h1, h2⟩ := one ns
    refine ⟨C + c, by omega, fun ms hm k hk => ?_⟩
    rcases List.mem_cons.mp hm with rfl | hm
    · have := h2 k hk; omega
    · have := hC ms hm k hk; omega

section
variable {prog : Program} {w : World} {A : Around} {E : Value → Shared → Prop} {s : Shared} {Q : Bool → Shared → Prop}
/-- two tuples of ints of one length are compared item by item -/
theorem walk_lex {b : Bool} {xs : List Value} {ns : List Int} (hx : IntsAre xs ns) : ∀ {ys : List Value} {ms : List Int} (i : Nat), IntsAre ys ms → ns.length = ms.length → Q (lexLt ns ms) s → PySem.W.KatLex prog w A b false Q (xs.zip ys) i s := by
  induction hx with
  | nil =>
    intro ys ms i hy hl h
    cases hy with
    | nil => exact PySem.W.kat_nil h
    | cons _ _ _ => simp at hl
  | @cons p t xs ns hx ih =>
    intro ys ms i hy hl h
    cases hy with
    | nil => simp at hl
    | @cons q u ys ms hy =>
      show PySem.W.KatLex prog w A b false Q ((Value.int p t, Value.int q u) :: xs.zip ys) i s
      refine PySem.W.kat_cons (wpAny_eqBool_int ?_)
      by_cases e : p = q
      · subst e
        rw [beq_self_eq_true]
        simp only [lexLt, if_true] at h
        exact PySem.W.kat_yes (ih (i + 1) hy (by simpa using hl) h)
      · rw [show (p == q) = false from beq_eq_false_iff_ne.mpr e]
        simp only [lexLt, if_neg e] at h
        exact PySem.W.kat_no (TS.oneLt_ints _ h)
end
/-- what is sorted: tuples of so many ints -/
def TupsL (h : Heap) (d : Nat) (vs : List Value) : Prop := ∀ v, v ∈ vs → ∃ ns, TS.TupInts h v ns ∧ ns.length = d
theorem TupsL.stays {h h' : Heap} {d : Nat} {vs : List Value} (x : TupsL h d vs) (k : ∀ b o, h.get? b = some o → o.cls = .type "tuple" → h'.get? b = some o) : TupsL h' d vs := fun v hv =>
  let ⟨ns, t, r⟩ := x v hv; ⟨ns, TS.TupInts.keeps t k, r⟩
theorem first_items {h : Heap} {d : Nat} (hd : 1 ≤ d) : ∀ vs : List Value, TupsL h d vs → ∃ fs, PySem.W.KatTups h vs fs ∧ fs.length = vs.length ∧ ∀ f, f ∈ fs → ∃ n t, f = Value.int n t
  | [], _ => ⟨[], .nil, rfl, fun f hf => by cases hf⟩
  | v :: vs, x => by
    obtain ⟨fs, k, hl, hi⟩ := first_items hd vs fun u hu => x u (List.mem_cons_of_mem _ hu)
    obtain ⟨ns, ⟨a, xs, e, ⟨o, g1, g2, n, g3⟩, i⟩, hn⟩ := x v List.mem_cons_self
    subst e
    cases q : xs.toList with
    | nil => have l := i.length; rw [q, List.length_nil, hn] at l; omega
    | cons y ys =>
      obtain ⟨m, t, hy⟩ := i.all y (by rw [q]; exact List.mem_cons_self)
      refine ⟨y :: fs, .cons g1 g2 g3 (by have z := congrArg (fun l : List Value => l[0]?) q; simpa using z) k, by simp [hl], fun f hf => ?_⟩
      rcases List.mem_cons.mp hf with rfl | hf
      · exact ⟨m, t, hy⟩
      · exact hi f hf
section
variable {prog : Program} {w : World} {A : Around} {E : Value → Shared → Prop} {s : Shared}
theorem order_of {d : Nat} {vs : List Value} (hd : 1 ≤ d) (h2 : 2 ≤ vs.length) (x : TupsL s.heap d vs) {r : Value → Int}
    (hr : ∀ u v, u ∈ vs → v ∈ vs → ∀ ns ms, TS.TupInts s.heap u ns → TS.TupInts s.heap v ms → decide (r u < r v) = lexLt ns ms) {Q : SortKind → Shared → Prop}
    (h : ∀ κ, TS.Cmp prog w A s κ (pairsOf vs) r → Q κ s) : wpAny (model prog w) A (keyKind' vs.toArray) Q E s := by
  obtain ⟨fs, k, hl, hi⟩ := first_items hd vs x
  refine PySem.W.kat_kind (T := Value.type "int") k (by omega) (fun f hf => ?_) rfl (h _ fun p q hp hq Q' E' hQ => ?_)
  · obtain ⟨n, t, rfl⟩ := hi f hf
    exact PySem.W.Looks.of_pure rfl
  · rw [pairsOf_toList] at hp hq
    have mp := (mem_zip_self hp).2
    have mq := (mem_zip_self hq).2
    obtain ⟨ns, tp, lp⟩ := x _ mp
    obtain ⟨ms, tq, lq⟩ := x _ mq
    have e := hr _ _ mp mq ns ms tp tq
    rw [e] at hQ
    obtain ⟨a, xs, e1, ⟨o, g1, _, n, g3⟩, i⟩ := tp
    obtain ⟨a', ys, e2, ⟨o', g1', _, n', g3'⟩, i'⟩ := tq
    rw [e1, e2]
    have l1 := i.length
    have l2 := i'.length
    rw [Array.length_toList] at l1 l2
    refine PySem.W.kat_lt g1 g3 g1' g3' ?_
    rw [show decide (xs.size < ys.size) = false from decide_eq_false (by omega)]
    exact walk_lex i 0 i' (by omega) hQ
/-- list.sort of a list of tuples of ints -/
theorem sort_lex {a : Addr} {vs : List Value} {n d : Nat} {P : PySem.Fin → Shared → Prop} (ho : s.heap.get? a = some (seqObj "list" vs.toArray n)) (h64 : vs.length < 64) (hd : 1 ≤ d) (x : TupsL s.heap d vs)
    (h : ∀ out : Array Value, out.toList.Perm vs → out.toList.Pairwise (fun u v => lexLt (TS.intsOf s.heap v) (TS.intsOf s.heap u) = false) → P (.done (.ret .none)) { s with heap := sortedHeap s.heap a vs out }) :
    wpAny (model prog w) A (Builtin.«list.sort» ⟨[.ref a], []⟩) P E s := by
  obtain ⟨C, c0, hC⟩ := bd_some (vs.map (TS.intsOf s.heap))
  have bd : ∀ v ∈ vs, TS.Bd (2 * C) (shI C (TS.intsOf s.heap v)) := fun v hv m hm => by
    obtain ⟨k, hk, rfl⟩ := List.mem_map.mp hm
    have := hC _ (List.mem_map.mpr ⟨v, hv, rfl⟩) k hk
    constructor <;> omega
  have len : ∀ v ∈ vs, (TS.intsOf s.heap v).length = d := fun v hv => by
    obtain ⟨ns, t, e⟩ := x v hv
    rw [t.ints]; exact e
  have rank : ∀ u v, u ∈ vs → v ∈ vs → decide (TS.code (2 * C) (shI C (TS.intsOf s.heap u)) < TS.code (2 * C) (shI C (TS.intsOf s.heap v))) = lexLt (TS.intsOf s.heap u) (TS.intsOf s.heap v) := fun u v hu hv => by
    have := code_lex (B := 2 * C) (C := C) _ _ ((len u hu).trans (len v hv).symm) (bd u hu) (bd v hv)
    rw [Bool.eq_iff_iff, decide_eq_true_eq]; exact this
  have there : ∀ b o, s.heap.get? b = some o → o.cls = .type "tuple" → (TS.midHeap s.heap a vs).get? b = some o := fun b o e c => by
    refine TS.midHeap_old (fun z => ?_) e
    subst z
    rw [ho] at e
    cases e
    exact absurd c (by intro z; injection z with z; exact absurd z (by decide))
  refine SK.plain_sort (r := fun v => TS.code (2 * C) (shI C (TS.intsOf s.heap v))) ho h64 (fun h2 Q hQ => ?_) fun ps out e1 e2 e3 => ?_
  · refine order_of (s := { s with heap := TS.midHeap s.heap a vs }) hd h2 (x.stays there) (fun u v hu hv ns ms tu tv => ?_) hQ
    obtain ⟨nu, tu', _⟩ := x u hu
    obtain ⟨nv, tv', _⟩ := x v hv
    have eu : TS.intsOf s.heap u = ns := tu'.ints.trans ((tu'.keeps there).ints.symm.trans tu.ints)
    have ev : TS.intsOf s.heap v = ms := tv'.ints.trans ((tv'.keeps there).ints.symm.trans tv.ints)
    rw [← eu, ← ev]
    exact rank u v hu hv
  · obtain ⟨p, o⟩ := TS.out_rank (r := fun v => TS.code (2 * C) (shI C (TS.intsOf s.heap v))) e1 e2 e3
    refine h out p (List.Pairwise.imp_of_mem (fun {u v} hu hv le => ?_) o)
    have := rank v u (p.mem_iff.mp hv) (p.mem_iff.mp hu)
    rw [← this, decide_eq_false_iff_not]
    exact fun z => absurd le (by omega)
end
/-! ### the set -/
section
variable {pr : Program} {wd : World} {ar : Around} {E : Value → Shared → Prop} {s : Shared}
/-- few of the keys are unlike -/
def FewK (ks : List (Addr × List Int)) : Prop := ∀ M : List (List Int), M.Nodup → (∀ k ∈ M, k ∈ ks.map (·.2)) → M.length < 63
/-- set.update, item by item -/
theorem fill_set {I : Addr} {fp wr : List Addr} {G : Array GenState → Array GenState → Prop} {n : Nat} {Pv : Nat → Value → Prop} {St : Nat → Shared → Prop} {R : Result → Shared → Prop}
    (W : WalksS pr wd ar.in1 I fp wr G n Pv St) (z : Addr) (zf : z ∉ fp) (ks : List (Addr × List Int)) (hn : n = ks.length) (few : FewK ks) (item : ∀ i v, Pv i v → ∃ p, ks[i]? = some p ∧ v = .ref p.1)
    (h0 : Heap) (tups : ∀ p ∈ ks, L2.IsT pr wd h0 p.2 p.1) (z0 : h0.get? z = none) (wr0 : ∀ b ∈ wr, h0.get? b = none) (un : ar.in1.units < cLine) :
    ∀ (k i : Nat) (s : Shared), n - i = k → i ≤ n → St i s → (∀ b o, h0.get? b = some o → s.heap.get? b = some o) → (∃ L es ep t, SetTR pr wd s.heap z L es ep t ∧ Got ks i L) →
      (∀ s' L es ep t, Moved (z :: wr) G s s' → SetTR pr wd s'.heap z L es ep t → Got ks n L → (∀ b o, h0.get? b = some o → s'.heap.get? b = some o) → R (.ok (.ret .none)) s') →
      codeAny (model pr wd) ar (.builtin "set.update.loop" ⟨[.ref z, .ref I], []⟩) R s := by
  have zw : z ∉ wr := fun h => zf (W.sub _ h)
  have up : ∀ b ∈ wr, b ∈ z :: wr := fun b hb => List.mem_cons_of_mem _ hb
  have old : ∀ {s s' : Shared}, Moved wr G s s' → (∀ b o, h0.get? b = some o → s.heap.get? b = some o) → ∀ b o, h0.get? b = some o → s'.heap.get? b = some o := fun mv q b o e =>
    mv.heap b o (fun hb => by have := wr0 b hb; rw [this] at e; cases e) (q b o e)
  intro k
  induction k with
  | zero =>
    intro i s ek hi st q ⟨L, es, ep, t, hS, g⟩ done
    obtain rfl : i = n := by omega
    refine codeAny_builtin F.entry_set_update_loop ?_
    rw [Around.under_plainId F.plain_set_update_loop _]
    show wpAny _ ar.in1 (pyNext (.ref I) >>= _) _ _ s
    refine wpAny_bind (W.done s _ _ st fun s1 mv => ?_)
    have q1 := old mv q
    exact wpAny_pure (done s1 L es ep t (mv.mono up) (hS.keep (fun o e => mv.heap z o zw e) fun p hp => isT_keep (tups p (List.mem_of_mem_take (g.sub p hp))) q1) g q1)
  | succ k ih =>
    intro i s ek hi st q ⟨L, es, ep, t, hS, g⟩ done
    have lt : i < n := by omega
    refine codeAny_builtin F.entry_set_update_loop ?_
    rw [Around.under_plainId F.plain_set_update_loop _]
    show wpAny _ ar.in1 (pyNext (.ref I) >>= _) _ _ s
    refine wpAny_bind (W.item i s _ _ lt st fun v s1 pv st1 mv => ?_)
    obtain ⟨p, ep1, rfl⟩ := item i v pv
    have q1 := old mv q
    have inks : ∀ r ∈ L, r ∈ ks := fun r hr => List.mem_of_mem_take (g.sub r hr)
    have hS1 := hS.keep (fun o e => mv.heap z o zw e) fun r hr => isT_keep (tups r (inks r hr)) q1
    have hp : L2.IsT pr wd s1.heap p.2 p.1 := isT_keep (tups p (List.mem_of_getElem? ep1)) q1
    have room : L.length + 1 < 64 := by
      have := few (L.map (·.2)) hS.nd fun k hk => by
        obtain ⟨r, hr, rfl⟩ := List.mem_map.mp hk
        exact List.mem_map.mpr ⟨r, inks r hr, rfl⟩
      rw [List.length_map] at this; omega
    show wpAny _ ar.in1 (holding [Value.ref p.1] (setAdd z (.ref p.1)) >>= _) _ _ s1
    refine wpAny_bind (wpAny_holding ?_)
    unfold setAdd
    refine wpAny_holding (wpAny_bind (wpAny_pyHash_tuple un hp ?_))
    refine add_at (s := { s1 with toks := s1.toks + (p.2.length + 1) }) hS1 hp un room fun b h2 L2 es2 ep2 t2 sb hS2 c1 c2 => ?_
    have g2 : Got ks (i + 1) L2 := by
      by_cases c : p.2 ∈ L.map (·.2)
      · rw [c1 c]; exact g.same ep1 c
      · exact g.more ep1 (c2 c)
    have q2 : ∀ b o, h0.get? b = some o → h2.get? b = some o := fun b o e => (sb.2 b (fun x => by rw [x, z0] at e; cases e)).trans (q1 b o e)
    refine wpAny_pure ⟨plainId_quiet F.plain_set_update_loop _, ih (i + 1) _ (by omega) lt (W.frame _ s1 _ _ st1 (Nat.le_add_right _ _) fun b hb o e => ?_) q2 ⟨L2, es2, ep2, t2, hS2, g2⟩ fun s3 L3 es3 ep3 t3 mv3 hS3 g3 q3 => ?_⟩
    · rw [sb.2 b (fun h : b = z => zf (h ▸ hb))]; exact e
    · refine done s3 L3 es3 ep3 t3 (Moved.trans W.gtrans ((mv.mono up).then_heap (Nat.le_add_right _ _) fun b o hb e => ?_) mv3) hS3 g3 q3
      rw [sb.2 b (fun h : b = z => hb (h ▸ List.mem_cons_self))]; exact e

abbrev emptySet (wd : World) : Obj := { cls := .type "set", dict := none, data := .set #[] 0 (.fresh 0 0 (!wd.params.followText "set-order")) }
/-- set(xs) -/
theorem make_set {l : Addr} {xs : Array Value} (ks : List (Addr × List Int)) {Q : Value → Shared → Prop} (hh : ar.handled = none) (hl : s.heap.IsList l xs) (hx : xs.toList = ks.map fun p => Value.ref p.1)
    (tups : ∀ p ∈ ks, L2.IsT pr wd s.heap p.2 p.1) (few : FewK ks) (un : ar.units + 3 < cLine)
    (h : ∀ (h' : Heap) (tk : Nat) L es ep t, SetTR pr wd h' s.heap.objs.size L es ep t → Got ks ks.length L → (∀ b o, s.heap.get? b = some o → h'.get? b = some o) → Q (.ref s.heap.objs.size) { s with heap := h', toks := tk }) :
    wpAny (model pr wd) ar (call (.type "set") [.ref l]) Q E s := by
  have sz : xs.size = ks.length := by have q := congrArg List.length hx; simpa using q
  obtain ⟨c, tl, hmro⟩ := F.called_set.mro
  have m1 := F.called_set.made
  have m2 := F.called_set.sub
  refine wpAny_call (codeAny_of_tree ?_)
  show wpAny _ _ (callAny (.type "set") _) _ _ _
  refine wpAny_pure ⟨Code.quiet_builtin _ (by decide +kernel), codeAny_builtin F.entry_type_call ?_⟩
  rw [Around.under_plain (weight_type_call_type "set" [.ref l] []) rfl]
  have n1 := F.called_set.notType
  have n2 := F.called_set.canCreate
  have n3 := F.typeCall_set_1 (.ref l)
  repeat (any_goals (first | assumption | wp_step))
  refine codeAny_mono (code_set_led1 (.ref l) (E := E) (Q₁ := fun ob s1 => ob = .ref s.heap.objs.size ∧ s1 = { s with heap := s.heap.push (emptySet wd) }) ⟨rfl, rfl⟩) fun r s1 hr => ?_
  cases r with
  | error e => exact hr
  | ok fl =>
    cases fl with
    | ret ob =>
      obtain ⟨rfl, rfl⟩ := hr
      have gz : (s.heap.push (emptySet wd)).get? s.heap.objs.size = some (emptySet wd) := Heap.get?_push_size _ rfl
      have tz : Shared.TypeIs { s with heap := s.heap.push (emptySet wd) } (.ref s.heap.objs.size) "set" := ⟨_, gz, rfl⟩
      have k1 := F.called_set.init.lookup
      have k2 := F.called_set.init.bind (.ref s.heap.objs.size)
      repeat (any_goals (first | assumption | wp_step))
      refine codeAny_mono (codeAny_call_builtin (R := wants (fun r s2 => r = .none ∧ ∃ h' tk L es ep t, s2 = { s with heap := h', toks := tk } ∧ SetTR pr wd h' s.heap.objs.size L es ep t ∧ Got ks ks.length L ∧
          (∀ b o, s.heap.get? b = some o → h'.get? b = some o)) E) F.called_set.init.plain F.entry_set_init (check_set_init_1 tz ?_)) fun r2 s2 hr2 => ?_
      · obtain ⟨ol, hol, hcl, nl, hdl⟩ := hl
        obtain ⟨ocls, odict, odata, oslots⟩ := ol
        simp only at hcl hdl
        subst hcl; subst hdl
        have hol2 : (s.heap.push (emptySet wd)).get? l = some { cls := .type "list", dict := odict, data := .seq xs nl, slots := oslots } := Heap.get?_push_of_some _ hol
        have o1 := F.sub_list_set
        have o2 := F.sub_list_frozenset
        have o3 : (Value.type "list" == Value.type "dict") = false := by decide
        have hl1 : (s.heap.push (emptySet wd)).IsList l xs := ⟨_, hol2, rfl, nl, rfl⟩
        unfold Builtin.«set.__init__» noKeywords Builtin.Frozenset.updateFrom
        generalize eqI : pyIter = PI
        wp_walk
        subst eqI
        refine wpAny_pyIter_list hl1 (wpAny_bind (wpAny_runValue ?_))
        have hlt : l < s.heap.objs.size := Heap.lt_size hol
        have h3 : ar.in1.in1.in1.handled = none := by simp [hh]
        have e1 : (s.heap.push (emptySet wd)).objs.size = s.heap.objs.size + 1 := Heap.size_push ..
        have neI : l ≠ (s.heap.push (emptySet wd)).objs.size := by rw [e1]; exact Nat.ne_of_lt (Nat.lt_succ_of_lt hlt)
        have zf : s.heap.objs.size ∉ [(s.heap.push (emptySet wd)).objs.size, l] := by
          rw [e1]; simp only [List.mem_cons, List.not_mem_nil, or_false, not_or]; exact ⟨Nat.ne_of_lt (Nat.lt_succ_self _), Nat.ne_of_gt hlt⟩
        have item : ∀ (i : Nat) (v : Value), xs[i]? = some v → ∃ p, ks[i]? = some p ∧ v = .ref p.1 := fun i v hv => by
          have q : xs.toList[i]? = some v := by rw [Array.getElem?_toList]; exact hv
          rw [hx, List.getElem?_map, Option.map_eq_some_iff] at q
          obtain ⟨p, hp, e⟩ := q
          exact ⟨p, hp, e.symm⟩
        have gone : ∀ b, s.heap.objs.size ≤ b → s.heap.get? b = none := fun b hb => by
          cases q : s.heap.get? b with
          | none => rfl
          | some o => exact absurd (Nat.lt_of_lt_of_le (Heap.lt_size q) hb) (Nat.lt_irrefl _)
        have gz2 : ((s.heap.push (emptySet wd)).push { cls := .type "list_iterator", data := .fields #[.ref l, .int 0 0] }).get? s.heap.objs.size = some (emptySet wd) := Heap.get?_push_of_some _ gz
        refine fill_set ((Walks.list h3 _ l neI xs).toS) s.heap.objs.size zf ks sz few item s.heap tups (gone _ (Nat.le_refl _)) (fun b hb => gone b (by
            rw [List.mem_singleton.mp hb, e1]; exact Nat.le_succ _)) un (xs.size - 0) 0 _ (by omega) (Nat.zero_le _)
          ⟨⟨_, Heap.get?_push_size _ rfl, rfl, rfl⟩, (hl1.push _)⟩ (fun b o e => Heap.get?_push_of_some _ (Heap.get?_push_of_some _ e)) ⟨[], #[], 0, _, setTR_fresh gz2, Got.zero ks⟩ fun s3 L es ep t mv hS g q => ?_
        obtain ⟨h4, g4, d4, t4, o4⟩ := s3
        have y1 : g4 = s.gens := mv.gens
        have y2 : d4 = s.drawn := mv.drawn
        have y3 : o4 = s.os := mv.os
        subst y1; subst y2; subst y3
        show wpAny _ _ _ _ _ _
        refine wpAny_pure ?_
        show wpAny _ _ (ret Value.none) _ _ _
        rw [sz] at g
        exact wpAny_pure ⟨rfl, h4, t4, L, es, ep, t, rfl, hS, g, q⟩
      · cases r2 with
        | error e => exact hr2
        | ok fl2 =>
          cases fl2 with
          | ret r =>
            obtain ⟨rfl, h4, tk, L, es, ep, t, rfl, hS, g, q⟩ := hr2
            repeat (any_goals (first | assumption | wp_step))
            exact h _ _ _ _ _ _ hS g q
          | _ => exact hr2.elim
    | _ => exact hr.elim
/-- sorted(a set of tuples of so many ints) -/
theorem sort_set {a : Addr} {L : List (Addr × List Int)} {es : Array (Int × Value)} {ep : Nat} {t : SetTable} {Q : Value → Shared → Prop} (R : SetTR pr wd s.heap a L es ep t) (hh : ar.handled = none)
    {d : Nat} (hd : 1 ≤ d) (len : ∀ p ∈ L, p.2.length = d)
    (hQ : ∀ s' p (out : Array Value) (c : Nat) (M : List (Addr × List Int)), (∀ b o, s.heap.get? b = some o → s'.heap.get? b = some o) → s'.gens = s.gens → s'.os = s.os → s.heap.objs.size ≤ p →
      s'.heap.get? p = some (seqObj "list" out c) → out.toList = M.map (fun q => Value.ref q.1) → M.Perm L → M.Pairwise (fun q r => lexLt r.2 q.2 = false) → Q (.ref p) s') :
    wpAny (model pr wd) ar (call (.builtin "sorted") [.ref a]) Q E s := by
  obtain ⟨o, ho, hex, hdt⟩ := R.ob
  have few := R.few
  have size := R.size
  refine Calls.call_function_entry kind_sorted plain_sorted entry_sorted (args_sorted1 _) ?_
  unfold Builtin.«sorted»
  refine wpAny_bind (m := checkCount "sorted" 1 1 _) (wpAny_pure ?_)
  refine wpAny_bind (collect_set (A := ar.in1) hh ⟨o, ho, hex.1, hdt⟩ R.fits (by unfold scanBound; omega) R.tab.ris R.led fun s1 vs k1 hz g1 o1 pm => ?_)
  rw [show es.toList.map (·.2) = L.map fun q => Value.ref q.1 by rw [R.rows, L2.rowsOf, List.map_map]; rfl] at pm
  -- the rows of some of the set's addresses
  have rows : ∀ us : List Value, (∀ v ∈ us, ∃ q ∈ L, v = Value.ref q.1) → ∃ M : List (Addr × List Int), us = M.map (fun q => Value.ref q.1) ∧ ∀ q ∈ M, q ∈ L := by
    intro us
    induction us with
    | nil => exact fun _ => ⟨[], rfl, fun q hq => by cases hq⟩
    | cons v us ih =>
      intro hv
      obtain ⟨q, hq, e⟩ := hv v List.mem_cons_self
      obtain ⟨M, e1, hs⟩ := ih fun u hu => hv u (List.mem_cons_of_mem _ hu)
      exact ⟨q :: M, by rw [List.map_cons, e, e1], fun r hr => (List.mem_cons.mp hr).elim (fun z => z ▸ hq) (hs r)⟩
  have alike : ∀ q ∈ L, ∀ r ∈ L, q.1 = r.1 → q = r := fun q hq r hr e => by
    have t1 := R.tup q hq
    have t2 := R.tup r hr
    rw [e] at t1
    exact Prod.ext e (t1.inj t2)
  have nL : L.Nodup := L2.nodup_of_map R.nd
  have perm : ∀ M : List (Addr × List Int), (∀ q ∈ M, q ∈ L) → (M.map (fun q => Value.ref q.1)).Perm (L.map fun q => Value.ref q.1) → M.Perm L := by
    intro M hs p1
    have nr : (L.map fun q => Value.ref q.1).Nodup := List.pairwise_map.mpr (List.Pairwise.imp_of_mem (fun {q r} hq hr ne e => by
      injection e with e; exact ne (alike q hq r hr e)) nL)
    refine (List.perm_ext_iff_of_nodup (L2.nodup_of_map (p1.nodup_iff.mpr nr)) nL).mpr fun q => ⟨hs q, fun hq => ?_⟩
    obtain ⟨r, hr, e⟩ := List.mem_map.mp (p1.mem_iff.mpr (List.mem_map.mpr ⟨q, hq, rfl⟩))
    injection e with e
    exact alike r (hs r hr) q hq e ▸ hr
  have lv : vs.length < 64 := by rw [pm.length_eq, List.length_map]; exact few
  refine wpAny_bind (wpAny_newList ?_ (by rw [sizeLine_eq]; omega))
  have hoL : (s1.heap.push (seqObj "list" vs.toArray 0)).get? s1.heap.objs.size = some (seqObj "list" vs.toArray 0) := Heap.get?_push_size _ rfl
  have tk : ∀ q ∈ L, TS.TupInts (s1.heap.push (seqObj "list" vs.toArray 0)) (.ref q.1) q.2 := fun q hq => L2.tupInts_of (P := pr) (w := wd) (isT_keep (R.tup q hq) fun b u e => Heap.get?_push_of_some _ (k1 b u e))
  have x : TupsL (s1.heap.push (seqObj "list" vs.toArray 0)) d vs := fun v hv => by
    obtain ⟨q, hq, e⟩ := List.mem_map.mp (pm.mem_iff.mp hv)
    exact ⟨q.2, e ▸ tk q hq, len q hq⟩
  refine wpAny_bind (wpAny_holding (wpAny_call_entry slot_list_sort ⟨_, hoL, rfl⟩ entry_list_sort (sort_lex (s := { s1 with heap := s1.heap.push (seqObj "list" vs.toArray 0) }) hoL lv hd x fun out a1 a2 => ⟨_, rfl, ?_⟩) (args_list_sort _)))
  obtain ⟨c, hc⟩ := sortedHeap_at (vs := vs) (out := out) hoL
  obtain ⟨M, e1, hs⟩ := rows out.toList fun v hv => by
    obtain ⟨q, hq, e⟩ := List.mem_map.mp (pm.mem_iff.mp (a1.mem_iff.mp hv))
    exact ⟨q, hq, e.symm⟩
  have pL : M.Perm L := perm M hs (by rw [← e1]; exact a1.trans pm)
  have pw : M.Pairwise (fun q r => lexLt r.2 q.2 = false) := by
    rw [e1] at a2
    refine List.Pairwise.imp_of_mem (fun {q r} hq hr le => ?_) (List.pairwise_map.mp a2)
    have f1 := (tk q (hs q hq)).ints
    have f2 := (tk r (hs r hr)).ints
    rw [← f1, ← f2]
    exact le
  refine wpAny_pure ⟨_, rfl, hQ _ s1.heap.objs.size out c M (fun b u e => ?_) g1 o1 hz hc e1 pL pw⟩
  have q := k1 b u e
  have lt := Heap.lt_size q
  show (sortedHeap (s1.heap.push (seqObj "list" vs.toArray 0)) s1.heap.objs.size vs out).get? b = some u
  rw [sortedHeap_old (Nat.ne_of_lt lt) (by rw [size_push']; exact Nat.lt_succ_of_lt lt)]
  exact Heap.get?_push_of_some _ q
end
/-! ### the calls, abstractly -/
section
variable {X : Cx}
def rSetL (K : PySem.W.Frag) (P : Program) (w : World) : List V → Hp → VK → Prop := fun xs H Q => ∃ (l : Addr) (ks : List (Addr × List Int)), xs = [V.ref l] ∧ SqL K H l (ks.map fun p => V.ref p.1) ∧ (∀ p ∈ ks, SqT K H p.1 (p.2.map V.int)) ∧ FewK ks ∧
  ∀ a L, H a = none → (∀ p ∈ L, p ∈ ks) → (∀ p ∈ ks, p.2 ∈ L.map (·.2)) → (L.map (·.2)).Nodup → Q (.ref a) (upd H a (SetTO P w a L))
theorem cr_setL (hc : X.calm = true) (hu : X.A.units + 64 < cLine) : CallR X (.type "set") (rSetL X.K X.prog X.w) := by
  intro pins s σ H xs us Q I r h
  obtain ⟨l, ks, rfl, hl, hk, few, q⟩ := h
  rw [Vals.ref1 r]
  obtain ⟨its, rv, pl, hz⟩ := I.list hl
  have hn : H s.heap.objs.size = none := I.hok.fresh (Nat.le_refl _)
  refine make_set (pr := X.prog) (wd := X.w) ks (I.ok.hd hc) pl.isList (by simpa using refs_of_vals rv) (fun p hp => L2.Inv.isT I (hk p hp)) few (by omega) fun h' tk L es ep t R g k => ?_
  exact ⟨.ref s.heap.objs.size, upd H s.heap.objs.size (SetTO X.prog X.w s.heap.objs.size L), I.laid (t' := tk) k (Nat.le_refl _) (setTO_new R.t0), rfl,
    q _ L hn (fun p hp => List.mem_of_mem_take (g.sub p hp)) (fun p hp => g.all p (by rw [List.take_length]; exact hp)) R.nd⟩
def rSortL (K : PySem.W.Frag) (P : Program) (w : World) : List V → Hp → VK → Prop := fun vs H Q => ∃ (a : Addr) (L : List (Addr × List Int)) (d : Nat), vs = [V.ref a] ∧ H a = some (SetTO P w a L) ∧ (∀ p ∈ L, SqT K H p.1 (p.2.map V.int)) ∧ 1 ≤ d ∧
  (∀ p ∈ L, p.2.length = d) ∧
  ∀ (M : List (Addr × List Int)) (p : Addr), M.Perm L → M.Pairwise (fun q r => lexLt r.2 q.2 = false) → H p = none → Q (.ref p) (upd H p (.lst (M.map fun q => V.ref q.1)))
theorem cr_sortL (hc : X.calm = true) : CallR X (.builtin "sorted") (rSortL X.K X.prog X.w) := by
  intro pins s σ H vs us Q I r h
  obtain ⟨a, L, d, rfl, ha, hk, hd, len, q⟩ := h
  have R0 : SetT0 X.prog X.w s.heap a L := (I.hok a _ ha).1
  obtain ⟨es, ep, t, R⟩ := R0.full fun p hp => L2.Inv.isT I (hk p hp)
  rw [Vals.ref1 r]
  refine sort_set R (I.ok.hd hc) hd len fun s' p out c M k g o hp hg hout pm pw => ?_
  have few : M.length < 64 := by rw [pm.length_eq]; exact R.few
  have sl : (M.map fun q => V.ref q.1).length ≤ sizeLine := by rw [List.length_map, sizeLine_eq]; omega
  have hn : H p = none := I.hok.fresh hp
  have hv : Vals (M.map fun q => V.ref q.1) out.toList := by rw [hout]; exact vals_of_refs M
  have J : Inv X pins σ (upd H p (.lst (M.map fun q => V.ref q.1))) { s with heap := s'.heap, gens := s'.gens, drawn := s'.drawn, toks := s'.toks } :=
    I.call (ch := []) (Un.laid k hp hn) (I.hok.laid k hp ⟨sl, out.toList, c, hv, hg⟩) (by rw [g]; exact I.bare) (fun _ z => nomatch z)
  rw [show s' = { s with heap := s'.heap, gens := s'.gens, drawn := s'.drawn, toks := s'.toks } by cases s'; cases s; cases o; rfl]
  exact ⟨.ref p, _, J, rfl, q M p pm pw hn⟩
end
/-! ### the reading is sound -/
theorem ints_back {K : PySem.W.Frag} {H : Hp} {A : Addr → Prop} : ∀ {xs : List V} {ds : List D} {ns : List Int}, DaAll K H A xs ds → intsD ds = some ns → xs = ns.map V.int ∧ ds = ns.map PyData.int
  | _, [], _, .nil, e => by cases e; exact ⟨rfl, rfl⟩
  | _, d :: ds, ns, .cons h t, e => by
    cases d with
    | int i =>
      cases h
      simp only [intsD, Option.map_eq_some_iff] at e
      obtain ⟨ms, e1, rfl⟩ := e
      obtain ⟨q1, q2⟩ := ints_back t e1
      exact ⟨by rw [q1]; rfl, by rw [q2]; rfl⟩
    | _ => simp [intsD] at e
theorem tups_back {K : PySem.W.Frag} {H : Hp} {A : Addr → Prop} : ∀ {xs : List V} {ds : List D} {ns : List (List Int)}, DaAll K H A xs ds → tupIs ds = some ns →
    ∃ ks : List (Addr × List Int), xs = ks.map (fun p => V.ref p.1) ∧ ks.map (·.2) = ns ∧ (∀ p ∈ ks, Da K H A (.ref p.1) (.tuple (p.2.map PyData.int)) ∧ SqT K H p.1 (p.2.map V.int))
  | _, [], _, .nil, e => by cases e; exact ⟨[], rfl, rfl, fun _ h => by cases h⟩
  | _, d :: ds, ns, .cons h t, e => by
    simp only [tupIs, Option.bind_eq_some_iff, Option.map_eq_some_iff] at e
    obtain ⟨x, e1, ms, e2, rfl⟩ := e
    obtain ⟨ks, q1, q2, q3⟩ := tups_back t e2
    cases d with
    | tuple zs =>
      obtain ⟨a, vs, rfl, g1, g2⟩ := h.asT
      obtain ⟨i1, i2⟩ := ints_back g2 e1
      subst i1; subst i2
      refine ⟨(a, x) :: ks, by rw [q1]; rfl, by rw [← q2]; rfl, fun p hp => ?_⟩
      rcases List.mem_cons.mp hp with rfl | hp
      · exact ⟨h, g1⟩
      · exact q3 p hp
    | _ => simp [tupI] at e1
theorem same_len {ns : List (List Int)} (h : sameLen ns = true) : ∃ d, 1 ≤ d ∧ ∀ n ∈ ns, n.length = d := by
  cases ns with
  | nil => exact ⟨1, Nat.le_refl _, fun _ h => by cases h⟩
  | cons x xs =>
    simp only [sameLen, Bool.and_eq_true, decide_eq_true_eq, List.all_eq_true] at h
    exact ⟨x.length, h.1, fun n hn => (List.mem_cons.mp hn).elim (fun e => by rw [e]) fun m => h.2 n m⟩
theorem DaAll.of_all {K : PySem.W.Frag} {H : Hp} {A : Addr → Prop} : ∀ {M : List (Addr × List Int)}, (∀ p ∈ M, Da K H A (.ref p.1) (.tuple (p.2.map PyData.int))) → DaAll K H A (M.map fun q => V.ref q.1) ((M.map (·.2)).map fun n => .tuple (n.map PyData.int))
  | [], _ => .nil
  | p :: M, h => .cons (h p List.mem_cons_self) (DaAll.of_all fun q hq => h q (List.mem_cons_of_mem _ hq))
theorem sqT_kept {K : PySem.W.Frag} {H H' : Hp} {a : Addr} {xs : List V} (h : SqT K H a xs) (k : ∀ b o, H b = some o → H' b = some o) : SqT K H' a xs :=
  h.imp (fun z => z.imp (fun q => k _ _ q) fun ⟨o, q⟩ => ⟨o, k _ _ q⟩) id
theorem nodup_sub {M N : List (List Int)} (h : M.Nodup) (s : ∀ k ∈ M, k ∈ N) : M.length ≤ N.length := by
  induction M generalizing N with
  | nil => exact Nat.zero_le _
  | cons x xs ih =>
    obtain ⟨h1, h2⟩ := List.nodup_cons.mp h
    have hx := s x List.mem_cons_self
    have := ih h2 (N := N.erase x) fun y hy => (List.mem_erase_of_ne (fun e => h1 (by rw [← e]; exact hy))).mpr (s y (List.mem_cons_of_mem _ hy))
    rw [List.length_erase_of_mem hx] at this
    have := List.length_pos_of_mem hx
    rw [List.length_cons]; omega
theorem cs_ss {K : PySem.W.Frag} {P : Program} {w : World} : CallS K (fun vs H Q => rSetL K P w vs H fun x H2 => rSortL K P w [x] H2 Q) ssD := by
  intro ds z S F H vs Q wk dv e k
  unfold ssD at e
  split at e
  · rename_i ds0
    simp only [Option.bind_eq_some_iff] at e
    obtain ⟨ns, e1, e2⟩ := e
    split at e2
    · rename_i ok
      cases e2
      simp only [Bool.and_eq_true, decide_eq_true_eq] at ok
      obtain ⟨d, hd, len⟩ := same_len ok.1
      obtain ⟨v, rfl, h1⟩ := dt1 dv
      obtain ⟨l, xs, rfl, sq, da⟩ := h1.asL
      obtain ⟨ks, rfl, rfl, q3⟩ := tups_back da e1
      refine ⟨l, ks, rfl, sq, fun p hp => (q3 p hp).2, fun M nd sub => ?_, fun a L ha sub all nd => ?_⟩
      · have := nodup_sub nd fun k hk => mem_ssetL.mpr (sub k hk)
        omega
      · obtain ⟨w1, le1⟩ := wk.alloc (o := SetTO P w a L) ha
        have kept : ∀ b o, H b = some o → upd H a (SetTO P w a L) b = some o := fun b o e => by rw [upd_ne (ne_of_none e ha)]; exact e
        refine ⟨a, L, d, rfl, upd_same, fun p hp => sqT_kept (q3 p (sub p hp)).2 kept, hd, fun p hp => len _ (List.mem_map.mpr ⟨p, sub p hp, rfl⟩), fun M p pm pw hp => ?_⟩
        obtain ⟨w2, le2⟩ := w1.alloc (o := .lst (M.map fun q => V.ref q.1)) hp
        have le := le1.trans le2
        have inks : ∀ q ∈ M, q ∈ ks := fun q hq => sub q (pm.mem_iff.mp hq)
        have es : M.map (·.2) = ssetL (ks.map (·.2)) := by
          have ndM : (M.map (·.2)).Nodup := (pm.map (·.2)).nodup_iff.mpr nd
          refine so_eq ?_ (so_ssetL _) fun x => ?_
          · have : (M.map (·.2)).Pairwise fun x y => lexLt y x = false := List.pairwise_map.mpr pw
            refine List.Pairwise.imp₂ (fun x y h ne => ?_) this ndM
            rcases lex_tri x y with q | q | q
            · exact absurd q ne
            · exact q
            · rw [h] at q; cases q
          · rw [mem_ssetL]
            constructor
            · intro hx
              obtain ⟨q, hq, rfl⟩ := List.mem_map.mp hx
              exact List.mem_map.mpr ⟨q, inks q hq, rfl⟩
            · intro hx
              obtain ⟨q, hq, rfl⟩ := List.mem_map.mp hx
              exact (pm.map (·.2)).mem_iff.mpr (all q hq)
        refine k _ _ w2 le ?_
        rw [← es]
        refine .lst upd_same (fun z => w1.notLive hp z) (DaAll.of_all fun q hq => Da.le le (q3 q (inks q hq)).1)
    · cases e2
  · cases e
section
variable {X : Cx} {Xq : XW} {a : Expr} {fa : Fe} {p p2 q q2 : Pos}
theorem se_ss (hc : X.calm = true) (hu : X.A.units + 100 < cLine) (hg : Gl X "sorted") (hm : X.mg "sorted" = none) (hg2 : Gl X "set") (hm2 : X.mg "set" = none) (ha : SE X Xq a fa) (hs : starEach [a] X.env = [(false, eval a X.env)]) :
    SE X Xq (.Call (.Name "sorted" p) [.Call (.Name "set" p2) [a] [] q] [] q2) (fun e S => (fa e S).bind fun x S1 => lift ((asDs S1 [x]).bind fun ds => (ssD ds).map R.d) S1) := by
  have h1 : PA X [a] (tCons (RE X.K Xq fa) tNil) := pa_cons ha pa_nil (by rw [hs]; rfl)
  have h2 := pe_callTy (pos := q) (p := p2) (cr_setL (X := X) hc (by omega)) hg2 hm2 boot_set h1 (by decide) (by decide) (by rw [hs]; rfl) (by rfl)
  have h3 := pe_callB (pos := q2) (p := p) (cr_sortL (X := X) hc) hg hm boot_sorted (pa_cons h2 pa_nil (by rfl)) (by decide) (by decide) (by rfl) (by rfl)
  refine h3.weak fun st H Q h => ?_
  have sa : RA X.K Xq (fun e S => (fa e S).bind fun x S1 => Out.ok [x] S1) st H (fun vs H1 => rSetL X.K X.prog X.w vs H1 fun x H2 => rSortL X.K X.prog X.w [x] H2 Q) := by
    refine RA.call (r := fun vs H1 Q => rSetL X.K X.prog X.w vs H1 fun x H2 => rSortL X.K X.prog X.w [x] H2 Q) cs_ss ?_
    obtain ⟨e, S, F, w, re, pp⟩ := h
    exact ⟨e, S, F, w, re, by
      have q : (((fa e S).bind fun x S1 => Out.ok [x] S1).bind fun rs S1 => lift ((asDs S1 rs).bind fun ds => (ssD ds).map R.d) S1) = (fa e S).bind fun x S1 => lift ((asDs S1 [x]).bind fun ds => (ssD ds).map R.d) S1 := by cases fa e S <;> rfl
      show Post X.K Xq H S F (((fa e S).bind fun x S1 => Out.ok [x] S1).bind fun rs S1 => lift ((asDs S1 rs).bind fun ds => (ssD ds).map R.d) S1) _
      rw [q]
      exact (show Post X.K Xq H S F ((fa e S).bind fun x S1 => lift ((asDs S1 [x]).bind fun ds => (ssD ds).map R.d) S1) _ from pp)⟩
  obtain ⟨e, S, F, w, re, pp⟩ := sa
  exact ⟨e, S, F, w, re, pp.bind.imp fun x S1 F1 H1 w1 l1 p1 v hv => p1.ok w1 _ (.cons hv .nil)⟩
end
end Sx
set_option Elab.async false
set_option linter.all false
set_option maxHeartbeats 1000000
/-! Sx, part J: comprehensions, statements. -/
namespace Sx
open PySem PySem.Spec PyProof.Rows L2

/-! ### list comprehensions -/
def XF : XW := fun _ _ _ _ => False
theorem Post.calm {t : Type} {K : PySem.W.Frag} {Xq : XW} {H : Hp} {S : Store} {F : Nat → Addr} {o : Out t} {Q : t → Store → (Nat → Addr) → Hp → Prop} (h : Post K Xq H S F (Sx.calm o) Q) : Post K XF H S F o Q := by
  cases o with
  | ok a S1 => exact h
  | exc x S1 => exact h.elim
  | bad => exact h
theorem RepE.wipe {K : PySem.W.Frag} {H : Hp} {S : Store} {F : Nat → Addr} {e : Ev} {st : L2.St} (h : RepE K H S F e st) : ∀ vs, RepE K H S F (wipeE e vs) (L2.wipe st vs)
  | [] => h
  | v :: vs => RepE.unset (RepE.wipe h vs) v
/-- the new list is done -/
theorem Wok.closeCell {K : PySem.W.Frag} {H0 H : Hp} {S0 S : Store} {F0 F : Nat → Addr} {n : Nat} {ys : List D} (w : Wok K H S F) (l : Wle H0 S0 F0 H S F) (hn : S0.length = n) (h : S[n]? = some (.lst ys)) :
    Wok K H (S.take n) F ∧ Wle H0 S0 F0 H (S.take n) F ∧ Da K H (Live (S.take n) F) (.ref (F n)) (.list ys) := by
  obtain ⟨w1, l1, d1⟩ := w.freeze h
  obtain ⟨w2, sub⟩ := w1.trunc n
  have e : (S.set n .gone).take n = S.take n := by rw [List.take_set_of_le (Nat.le_refl n)]
  rw [e] at w2 sub
  have l2 := (l.trans l1).trunc (n := n) (by omega)
  rw [e] at l2
  exact ⟨w2, l2, Da.mono (fun _ _ _ e => e) (fun a z => .inl (sub a z)) _ _ d1⟩
section
variable {X : Cx} {Xq : XW} {tg elt iter : Expr} {ifs : List Expr} {scope : Scope} {own : List (Str × Nat)} {pos : Pos} {fi : Ev → Store → Out (List D)} {fg : R → Ev → Store → Out Ev} {ft : Ev → Store → Out Bool} {fe : Fe}
def lcStep (own : List Nat) (fg : R → Ev → Store → Out Ev) (ft : Ev → Store → Out Bool) (fe : Fe) (e : Ev) : D → Store → Out (Option D) := fun x S2 =>
  (fg (.d x) (wipeE e own) S2).bind fun e2 S3 => (ft e2 S3).bind fun k S4 => if k then (fe e2 S4).bind fun y S5 => lift ((pureD y).map some) S5 else .ok none S4
def lcF (fi : Ev → Store → Out (List D)) (own : List Nat) (fg : R → Ev → Store → Out Ev) (ft : Ev → Store → Out Bool) (fe : Fe) : Fe := fun e S =>
  (fi e S).bind fun xs S1 => (lcD S1.length (lcStep own fg ft fe e) xs (S1 ++ [.lst []])).bind fun _ S6 => lcEnd S1.length S6
theorem Post.eqn {t u : Type} {K : PySem.W.Frag} {H : Hp} {S : Store} {F : Nat → Addr} {o : Out t} {g : t → Store → Out u} {O : Out u} (h : (Sx.calm o).bind g = O) (nb : O ≠ .bad) : Post K XF H S F o (fun a S' _ _ => g a S' = O) := by
  cases o with
  | ok a S1 => exact fun _ _ _ _ => h
  | exc x S1 => exact absurd h.symm nb
  | bad => exact absurd h.symm nb
theorem Post.nb {t : Type} {K : PySem.W.Frag} {Xq : XW} {H : Hp} {S : Store} {F : Nat → Addr} {o : Out t} {Q : t → Store → (Nat → Addr) → Hp → Prop} (h : Post K Xq H S F o Q) : o ≠ .bad := fun e => by rw [e] at h; exact h
theorem wipe_wipe (st : L2.St) : ∀ vs : List Nat, L2.wipe (L2.wipe st vs) vs = L2.wipe st vs
  | [] => rfl
  | v :: vs => by
    have h1 : L2.wipe (L2.wipe st (v :: vs)) (v :: vs) = L2.wipe (L2.wipe st vs) (v :: vs) := wipe_set (List.mem_cons_self)
    rw [h1]
    show (L2.wipe (L2.wipe st vs) vs).set v none = (L2.wipe st vs).set v none
    rw [wipe_wipe st vs]
theorem bind_assoc {t u w : Type} (o : Out t) (f : t → Store → Out u) (g : u → Store → Out w) : (o.bind f).bind g = o.bind fun a S => (f a S).bind g := by cases o <;> rfl
theorem lc_okG {K : PySem.W.Frag} {st : L2.St} {H : Hp} {Q : VK} {vs : List Nat} {gg : R → Store → Out R} (hgg : gg = Out.ok ∨ gg = newD) (h : RE K Xq (fun e S => (lcF fi vs fg ft fe e S).bind gg) st H Q) : tLc (RI K Xq fi) (RG K XF vs fg) (RT K XF ft) (RE K XF fe) vs st H Q := by
  obtain ⟨e, S, F, w, re, p⟩ := h
  have p : Post K Xq H S F ((fi e S).bind fun xs S1 => (lcD S1.length (lcStep vs fg ft fe e) xs (S1 ++ [.lst []])).bind fun _ S6 => (lcEnd S1.length S6).bind gg) (fun r S' F' H' => ∀ v, RepR K H' S' F' v r → Q v H') := by
    have p := p
    unfold lcF at p
    simp only [bind_assoc] at p
    exact p
  refine ⟨e, S, F, w, re, p.bind.imp fun xs S1 F1 H1 w1 l1 p1 J ov D hD => ?_⟩
  obtain ⟨w2, l2⟩ := w1.newCell hD (ds := []) .nil
  have re1 : RepE K H1 S1 F1 e st := re.le l1
  have nb := p1.nb
  generalize hO : (lcD S1.length (lcStep vs fg ft fe e) xs (S1 ++ [.lst []])).bind (fun _ S6 => (lcEnd S1.length S6).bind gg) = O at p1 nb
  generalize hn : S1.length = n at w2 l2 hO
  generalize hH : upd H1 D (.lst []) = H2 at *
  generalize hS : S1 ++ [Cell.lst []] = S2 at *
  generalize hF : addF F1 n D = F2 at *
  have fD : F2 n = D := by rw [← hF]; exact addF_new
  have hl : n < S2.length := by rw [← hS]; simp; omega
  refine ⟨fun i m H => m = xs.length - i ∧ i ≤ xs.length ∧ ∃ S F, Wok K H S F ∧ Wle H2 S2 F2 H S F ∧ (lcD n (lcStep vs fg ft fe e) (xs.drop i) S).bind (fun _ S6 => (lcEnd n S6).bind gg) = O, ⟨xs.length, by simp, Nat.zero_le _, S2, F2, w2, .refl, hO⟩, ?_⟩
  rintro i m H3 ⟨rfl, hi, S3, F3, w3, l3, p3⟩
  have fD3 : F3 n = D := (l3.adr n hl).trans fD
  obtain ⟨stp, go⟩ := ov H3 S3 F3 w3 (l2.trans l3)
  by_cases hlt : i < xs.length
  · have hd : xs[i]? = some xs[i] := by simp [hlt]
    obtain ⟨g1, g2⟩ := go i _ hd
    refine .inr ⟨g1, fun H' => xs.length - (i + 1) = xs.length - (i + 1) ∧ i + 1 ≤ xs.length ∧ ∃ S F, Wok K H' S F ∧ Wle H2 S2 F2 H' S F ∧ (lcD n (lcStep vs fg ft fe e) (xs.drop (i + 1)) S).bind (fun _ S6 => (lcEnd n S6).bind gg) = O, fun H' q => ⟨_, by omega, q⟩, fun x H4 y => ?_⟩
    obtain ⟨w4, l4, dx⟩ := g2 x H4 y
    rw [List.drop_eq_getElem_cons hlt] at p3
    unfold lcD at p3
    rw [bind_assoc] at p3
    have p5 := Post.eqn (K := K) (H := H4) (S := S3) (F := F3) p3 nb
    have re4 : RepE K H4 S3 F3 e st := ((re1.le l2).le l3).le l4
    refine ⟨wipeE e vs, S3, F3, .d xs[i], w4, re4.wipe vs, dx, p5.bind.imp fun e5 S5 F5 H5 w5 l5 q5 st5 re5 hw => ⟨hw.trans (wipe_wipe _ _), ?_⟩⟩
    refine ⟨e5, S5, F5, w5, re5, q5.bind.imp fun b S6 F6 H6 w6 l6 q6 => ?_⟩
    cases b with
    | false =>
      rw [if_neg Bool.false_ne_true] at q6 ⊢
      have q6 := q6.ok w6
      exact ⟨rfl, hlt, S6, F6, w6, (((l3.trans l4).trans l5).trans l6), q6⟩
    | true =>
      rw [if_pos rfl] at q6 ⊢
      refine ⟨e5, S6, F6, w6, re5.le l6, q6.bind.imp fun yv S7 F7 H7 w7 l7 q7 v hv => ?_⟩
      cases yv with
      | ref j => exact q7.elim
      | d yv =>
        have q7 := Post.ok w7 q7
        dsimp only at q7
        cases ec : S7[n]? with
        | none => rw [ec] at q7; exact absurd q7.symm nb
        | some cl =>
          rw [ec] at q7
          cases cl with
          | gone => exact absurd q7.symm nb
          | ro _ => exact absurd q7.symm nb
          | lst acc =>
            dsimp only at q7
            split at q7
            · rename_i hz
              obtain ⟨us, h1, h2⟩ := w7.cell n _ ec
              have lall := ((((l3.trans l4).trans l5).trans l6).trans l7)
              have fD7 : F7 n = D := (lall.adr n hl).trans fD
              obtain ⟨w8, l8⟩ := w7.setCell (ws := us ++ [v]) ec (h2.append (.cons hv .nil))
              rw [fD7] at w8 l8 h1
              exact ⟨us, h1, by rw [h2.length]; exact of_decide_eq_true hz, rfl, hlt, _, F7, w8, lall.trans l8, q7⟩
            · exact absurd q7.symm nb
  · have ei : i = xs.length := by omega
    subst ei
    refine .inl ⟨stp, ?_⟩
    rw [List.drop_length] at p3
    have p4 : (lcEnd n S3).bind gg = O := p3
    unfold lcEnd at p4
    cases ec : S3[n]? with
    | none => rw [ec] at p4; exact absurd p4.symm nb
    | some cl =>
      rw [ec] at p4
      cases cl with
      | gone => exact absurd p4.symm nb
      | ro _ => exact absurd p4.symm nb
      | lst ys =>
        rcases hgg with rfl | rfl
        · obtain ⟨w5, l5, d5⟩ := w3.closeCell (l2.trans l3) hn ec
          rw [fD3] at d5
          subst p4
          exact p1 _ _ w5 l5 _ d5
        · have hn3 : n < S3.length := lt_of_get ec
          have et : S3.take (n + 1) = S3.take n ++ [.lst ys] := by
            rw [List.take_succ, ec]; rfl
          obtain ⟨w5, _⟩ := w3.trunc (n + 1)
          have l5 := (l2.trans l3).trunc (n := n + 1) (by omega)
          rw [et] at w5 l5
          have e4 : (Out.ok (R.d (.list ys)) (S3.take n)).bind newD = O := p4
          have e5 : Out.ok (R.ref (S3.take n).length) (S3.take n ++ [.lst ys]) = O := e4
          have e6 : (S3.take n).length = n := by rw [List.length_take]; omega
          rw [e6] at e5
          subst e5
          exact p1 _ _ w5 l5 _ ⟨by rw [List.length_append, e6]; simp, by rw [fD3]⟩
theorem lc_ok {K : PySem.W.Frag} {st : L2.St} {H : Hp} {Q : VK} {vs : List Nat} (h : RE K Xq (lcF fi vs fg ft fe) st H Q) : tLc (RI K Xq fi) (RG K XF vs fg) (RT K XF ft) (RE K XF fe) vs st H Q := by
  refine lc_okG (.inl rfl) ?_
  have e : (fun e S => (lcF fi vs fg ft fe e S).bind Out.ok) = lcF fi vs fg ft fe := by
    funext e S
    cases lcF fi vs fg ft fe e S <;> rfl
  rw [e]; exact h
theorem se_lc (hc : X.calm = true) (hN : X.N.Nodup) (hi : SI X Xq tg iter fi) (ok : BlkOk X.N X.env.scope scope own)
    (hg : ∀ (s : Shared) (H : Hp) (C : Addr) (cl : List (Str × Addr)) (fp : List Addr), SG (X.blk s H scope (compEnvC scope cl C X.env) fp) XF (own.map (·.2)) tg fg) (ht : ∀ (s : Shared) (H : Hp) (C : Addr) (cl : List (Str × Addr)) (fp : List Addr), PTs (X.blk s H scope (compEnvC scope cl C X.env) fp) ifs (RT X.K XF ft))
    (he : ∀ (s : Shared) (H : Hp) (C : Addr) (cl : List (Str × Addr)) (fp : List Addr), SE (X.blk s H scope (compEnvC scope cl C X.env) fp) XF elt fe) (hs : ∀ x, foldedSetIterable iter X.env x = pure x) :
    SE X Xq (.ListComp elt [⟨tg, iter, ifs, 0⟩] scope pos) (lcF fi (own.map (·.2)) fg ft fe) :=
  (pe_lc hc hN hi ok hg ht he hs).weak fun st H Q h => lc_ok h
theorem se_newlc (hc : X.calm = true) (hN : X.N.Nodup) (hi : SI X Xq tg iter fi) (ok : BlkOk X.N X.env.scope scope own)
    (hg : ∀ (s : Shared) (H : Hp) (C : Addr) (cl : List (Str × Addr)) (fp : List Addr), SG (X.blk s H scope (compEnvC scope cl C X.env) fp) XF (own.map (·.2)) tg fg) (ht : ∀ (s : Shared) (H : Hp) (C : Addr) (cl : List (Str × Addr)) (fp : List Addr), PTs (X.blk s H scope (compEnvC scope cl C X.env) fp) ifs (RT X.K XF ft))
    (he : ∀ (s : Shared) (H : Hp) (C : Addr) (cl : List (Str × Addr)) (fp : List Addr), SE (X.blk s H scope (compEnvC scope cl C X.env) fp) XF elt fe) (hs : ∀ x, foldedSetIterable iter X.env x = pure x) :
    SE X Xq (.ListComp elt [⟨tg, iter, ifs, 0⟩] scope pos) (fun e S => (lcF fi (own.map (·.2)) fg ft fe e S).bind newD) :=
  (pe_lc hc hN hi ok hg ht he hs).weak fun st H Q h => lc_okG (.inr rfl) h
/-! ### statements -/
def EndOk (K : PySem.W.Frag) (D : Ends) (p : Fl × Ev) (S : Store) (F : Nat → Addr) (H : Hp) : Prop :=
  match p.1 with
  | .nx => ∀ st, RepE K H S F p.2 st → D.nx st H
  | .ct => ∀ st, RepE K H S F p.2 st → D.ct st H
  | .bk => ∀ st, RepE K H S F p.2 st → D.bk st H
  | .rt r => ∀ v, RepR K H S F v r → D.rt v H
abbrev Fs := Ev → Store → Out (Fl × Ev)
def RS (K : PySem.W.Frag) (Xq : XW) (f : Fs) : TS := fun D st H => EX K Xq st H f (EndOk K D)
abbrev SS (X : Cx) (Xq : XW) (s : Stmt) (f : Fs) : Prop := PS X s (RS X.K Xq f)
abbrev SSs (X : Cx) (Xq : XW) (s : List Stmt) (f : Fs) : Prop := PSs X s (RS X.K Xq f)
theorem _root_.L2.PS.weak {X : Cx} {e : Stmt} {t u : TS} (h : PS X e t) (w : ∀ D st H, u D st H → t D st H) : PS X e u := ⟨fun pins s st H D I q => h.run pins s st H D I (w D st H q)⟩
theorem _root_.L2.PSs.weak {X : Cx} {e : List Stmt} {t u : TS} (h : PSs X e t) (w : ∀ D st H, u D st H → t D st H) : PSs X e u := ⟨fun pins s st H D I q => h.run pins s st H D I (w D st H q)⟩
end
section
variable {X : Cx} {Xq : XW} {a b c tg : Expr} {pos : Pos} {fa fb fc : Fe} {fi : Ev → Store → Out (List D)} {fg : R → Ev → Store → Out Ev} {ft : Ev → Store → Out Bool} {es : List Expr} {fl : Ev → Store → Out (List R)} {fs ft2 : Fs} {sts rest : List Stmt} {s : Stmt} {vs : List Nat}
theorem ss_nil : SSs X Xq [] (fun e S => .ok (.nx, e) S) := pss_nil.weak fun D st H ⟨e, S, F, w, re, p⟩ => p.ok w st re
theorem ss_cons (h1 : SS X Xq s fs) (h2 : SSs X Xq rest ft2) : SSs X Xq (s :: rest) (fun e S => (fs e S).bind fun p S1 => match p.1 with | .nx => ft2 p.2 S1 | f => .ok (f, p.2) S1) :=
  (pss_cons h1 h2).weak fun D st H h => by
    obtain ⟨e, S, F, w, re, p⟩ := h
    refine ⟨e, S, F, w, re, p.bind.imp fun q S1 F1 H1 w1 l1 p1 => ?_⟩
    obtain ⟨fl, e1⟩ := q
    cases fl with
    | nx => exact fun st1 re1 => ⟨e1, S1, F1, w1, re1, p1⟩
    | rt r => exact (show EndOk X.K D (.rt r, e1) S1 F1 H1 from Post.ok (Xq := Xq) w1 p1)
    | bk => exact (show EndOk X.K D (.bk, e1) S1 F1 H1 from Post.ok (Xq := Xq) w1 p1)
    | ct => exact (show EndOk X.K D (.ct, e1) S1 F1 H1 from Post.ok (Xq := Xq) w1 p1)
theorem ss_pass : SS X Xq (.Pass pos) (fun e S => .ok (.nx, e) S) := ps_pass.weak fun D st H ⟨e, S, F, w, re, p⟩ => p.ok w st re
theorem ss_break : SS X Xq (.Break pos) (fun e S => .ok (.bk, e) S) := ps_break.weak fun D st H ⟨e, S, F, w, re, p⟩ => p.ok w st re
theorem ss_cont : SS X Xq (.Continue pos) (fun e S => .ok (.ct, e) S) := ps_continue.weak fun D st H ⟨e, S, F, w, re, p⟩ => p.ok w st re
theorem ss_doc {x j pos'} : SS X Xq (.Expr (.Constant (.str x) j pos) pos') (fun e S => .ok (.nx, e) S) := ps_doc.weak fun D st H ⟨e, S, F, w, re, p⟩ => p.ok w st re
theorem ss_never : SS X Xq s (fun _ _ => .bad) := (ps_never (st := s)).weak fun D st H ⟨e, S, F, w, re, p⟩ => p.elim
theorem ss_expr (ha : SE X Xq a fa) (hs : swapsWith a none pos.line X.env = pure false) : SS X Xq (.Expr a pos) (fun e S => (fa e S).bind fun _ S1 => .ok (.nx, e) S1) :=
  (ps_expr ha hs).weak fun D st H h => EX.e (g := fun e _ S1 => Out.ok (Fl.nx, e) S1) h fun e x S1 F1 H1 v w re hv p => p.ok w st re
theorem ss_ret (ha : SE X Xq a fa) : SS X Xq (.Return (some a) pos) (fun e S => (fa e S).bind fun r S1 => .ok (.rt r, e) S1) :=
  (ps_ret ha).weak fun D st H h => EX.e (g := fun e r S1 => Out.ok (Fl.rt r, e) S1) h fun e x S1 F1 H1 v w re hv p => p.ok w v hv
theorem ss_ret0 : SS X Xq (.Return none pos) (fun e S => .ok (.rt (.d .none), e) S) := ps_retN.weak fun D st H ⟨e, S, F, w, re, p⟩ => p.ok w _ .non
theorem ss_if {sa sb : List Stmt} {ga gb : Fs} (hc : ST X Xq c ft) (ha : SSs X Xq sa ga) (hb : SSs X Xq sb gb) : SS X Xq (.If c sa sb pos) (fun e S => (ft e S).bind fun k S1 => if k then ga e S1 else gb e S1) :=
  (ps_if hc ha hb).weak fun D st H h => EX.t (g := fun e k S1 => if k then ga e S1 else gb e S1) h fun e k S1 F1 H1 w re p => by
    cases k with
    | true => exact ⟨e, S1, F1, w, re, p⟩
    | false => exact ⟨e, S1, F1, w, re, p⟩
theorem ss_asg (ha : SE X Xq a fa) (hg : SG X Xq vs tg fg) (hs : swapsWithSole [tg] a pos.line X.env = pure false) (hw : swappedStores [tg] a X.env = pure none) (h1 : (assignEach [tg] X.env).map (·.2) = [assign tg X.env]) :
    SS X Xq (.Assign [tg] a pos) (fun e S => (fa e S).bind fun r S1 => (fg r e S1).bind fun e1 S2 => .ok (.nx, e1) S2) :=
  (ps_asg ha hg hs hw h1).weak fun D st H h => EX.e (g := fun e r S1 => (fg r e S1).bind fun e1 S2 => Out.ok (Fl.nx, e1) S2) h fun e r S1 F1 H1 v w re hv p =>
    ⟨e, S1, F1, r, w, re, hv, p.bind.imp fun e1 S2 F2 H2 w2 l2 p2 st2 re2 _ => p2.ok w2 st2 re2⟩
/-- for -/
theorem for_ok {K : PySem.W.Frag} {D : Ends} {st : L2.St} {H : Hp} (h : RS K Xq (fun e S => (fi e S).bind fun xs S1 => forD (fun x e1 S2 => (fg (.d x) e1 S2).bind fun e2 S3 => fs e2 S3) xs e S1) D st H) :
    tFor (RI K Xq fi) (RG K Xq vs fg) (RS K Xq fs) D st H := by
  obtain ⟨e, S, F, w, re, p⟩ := h
  refine ⟨e, S, F, w, re, p.bind.imp fun xs S1 F1 H1 w1 l1 p1 J ov => ?_⟩
  refine ⟨fun i m st H => m = xs.length - i ∧ i ≤ xs.length ∧ ∃ e S F, Wok K H S F ∧ Wle H1 S1 F1 H S F ∧ RepE K H S F e st ∧ Post K Xq H S F (forD (fun x e1 S2 => (fg (.d x) e1 S2).bind fun e2 S3 => fs e2 S3) (xs.drop i) e S) (EndOk K D), ⟨xs.length, by simp, Nat.zero_le _, e, S1, F1, w1, .refl, re.le l1, p1⟩, ?_⟩
  rintro i m st3 H3 ⟨rfl, hi, e3, S3, F3, w3, l3, re3, p3⟩
  obtain ⟨stp, go⟩ := ov H3 S3 F3 w3 l3
  by_cases hlt : i < xs.length
  · have hd : xs[i]? = some xs[i] := by simp [hlt]
    obtain ⟨g1, g2⟩ := go i _ hd
    refine .inr ⟨g1, fun st' H' => xs.length - (i + 1) = xs.length - (i + 1) ∧ i + 1 ≤ xs.length ∧ ∃ e S F, Wok K H' S F ∧ Wle H1 S1 F1 H' S F ∧ RepE K H' S F e st' ∧ Post K Xq H' S F (forD (fun x e1 S2 => (fg (.d x) e1 S2).bind fun e2 S3 => fs e2 S3) (xs.drop (i + 1)) e S) (EndOk K D), fun st' H' q => ⟨_, by omega, q⟩, fun x H4 y => ?_⟩
    obtain ⟨w4, l4, dx⟩ := g2 x H4 y
    rw [List.drop_eq_getElem_cons hlt] at p3
    unfold forD at p3
    rw [bind_assoc] at p3
    have p4 := (p3.mono l4).bind
    refine ⟨e3, S3, F3, .d xs[i], w4, re3.le l4, dx, p4.imp fun e5 S5 F5 H5 w5 l5 q5 st5 re5 _ => ?_⟩
    refine ⟨e5, S5, F5, w5, re5, q5.bind.imp fun pr S6 F6 H6 w6 l6 q6 => ?_⟩
    obtain ⟨fl, e6⟩ := pr
    have l16 := (((l3.trans l4).trans l5).trans l6)
    cases fl with
    | nx => exact fun st6 re6 => ⟨rfl, hlt, e6, S6, F6, w6, l16, re6, q6⟩
    | ct => exact fun st6 re6 => ⟨rfl, hlt, e6, S6, F6, w6, l16, re6, q6⟩
    | bk => exact (show EndOk K D (.nx, e6) S6 F6 H6 from Post.ok (Xq := Xq) w6 q6)
    | rt r => exact (show EndOk K D (.rt r, e6) S6 F6 H6 from Post.ok (Xq := Xq) w6 q6)
  · have ei : i = xs.length := by omega
    subst ei
    rw [List.drop_length] at p3
    exact .inl ⟨stp, Post.ok w3 p3 st3 re3⟩
theorem ss_for {iter : Expr} (hp : PassesOwn (model X.prog X.w) X.A X.env X.xe) (hc : X.calm = true) (hi : SI X Xq tg iter fi) (hg : SG X Xq vs tg fg) (hb : SSs X Xq sts fs) (hs : ∀ x, foldedSetIterable iter X.env x = pure x) :
    SS X Xq (.For tg iter sts [] pos) (fun e S => (fi e S).bind fun xs S1 => forD (fun x e1 S2 => (fg (.d x) e1 S2).bind fun e2 S3 => fs e2 S3) xs e S1) :=
  (ps_for hp hc hi hg hb hs).weak fun D st H h => for_ok h
/-- while -/
theorem whD_ok {c : Ev → Store → Out Bool} {b : Fs} {e : Ev} {S : Store} (h : whD c b e S ≠ .bad) : ∃ n, whN c b n e S = some (whD c b e S) := by
  unfold whD at h ⊢
  split at h
  · rename_i hx
    rw [dif_pos hx]
    have := hx.choose_spec
    refine ⟨hx.choose, ?_⟩
    cases hw : whN c b hx.choose e S with
    | none => rw [hw] at this; cases this
    | some o => rfl
  · exact absurd rfl h
theorem while_ok {K : PySem.W.Frag} {D : Ends} {st : L2.St} {H : Hp} (h : RS K Xq (fun e S => whD ft fs e S) D st H) : tWhile (RT K Xq ft) (RS K Xq fs) D st H := by
  obtain ⟨e, S, F, w, re, p⟩ := h
  obtain ⟨n, hn⟩ := whD_ok p.nb
  generalize hO : whD ft fs e S = O at p hn
  refine ⟨fun m st H1 => ∃ e S1 F1, Wok K H1 S1 F1 ∧ RepE K H1 S1 F1 e st ∧ Post K Xq H1 S1 F1 ((whN ft fs m e S1).getD .bad) (EndOk K D), ⟨n, e, S, F, w, re, by rw [hn]; exact hO ▸ p⟩, ?_⟩
  rintro m st1 H1 ⟨e1, S1, F1, w1, re1, p1⟩
  cases m with
  | zero => exact p1.elim
  | succ m =>
    unfold whN at p1
    refine ⟨e1, S1, F1, w1, re1, ?_⟩
    cases hc : ft e1 S1 with
    | bad => rw [hc] at p1; exact p1.elim
    | exc x S2 => rw [hc] at p1; exact p1
    | ok k S2 =>
      rw [hc] at p1
      cases k with
      | false =>
        intro H2 F2 w2 l2
        dsimp only
        rw [if_neg Bool.false_ne_true]
        exact (show EndOk K D (.nx, e1) S2 F2 H2 from Post.at_ (Xq := Xq) p1 w2 l2) st1 (re1.le l2)
      | true =>
        intro H2 F2 w2 l2
        dsimp only
        rw [if_pos rfl]
        have p2 := Post.mono l2 p1
        refine ⟨fun st' H' => ∃ e S1 F1, Wok K H' S1 F1 ∧ RepE K H' S1 F1 e st' ∧ Post K Xq H' S1 F1 ((whN ft fs m e S1).getD .bad) (EndOk K D), fun st' H' q => ⟨m, Nat.lt_succ_self _, q⟩, e1, S2, F2, w2, re1.le l2, ?_⟩
        dsimp only at p2
        cases hb : fs e1 S2 with
        | bad => rw [hb] at p2; exact p2.elim
        | exc x S3 => rw [hb] at p2; exact p2
        | ok pr S3 =>
          rw [hb] at p2
          obtain ⟨fl, e3⟩ := pr
          intro H3 F3 w3 l3
          have p3 := Post.mono l3 p2
          cases fl with
          | nx => exact fun st3 re3 => ⟨e3, S3, F3, w3, re3, p3⟩
          | ct => exact fun st3 re3 => ⟨e3, S3, F3, w3, re3, p3⟩
          | bk => exact (show EndOk K D (.nx, e3) S3 F3 H3 from Post.ok (Xq := Xq) w3 p3)
          | rt r => exact (show EndOk K D (.rt r, e3) S3 F3 H3 from Post.ok (Xq := Xq) w3 p3)
theorem ss_while (hp : PassesOwn (model X.prog X.w) X.A X.env X.xe) (hc : ST X Xq c ft) (hb : SSs X Xq sts fs) : SS X Xq (.While c sts [] pos) (fun e S => whD ft fs e S) :=
  (ps_while hp hc hb).weak fun D st H h => while_ok h
end
end Sx
set_option Elab.async false
set_option linter.all false
set_option maxHeartbeats 2000000
/-! Sx, part K: a reading of the text is checked against the text. -/
namespace Sx
open PySem PySem.Spec PyProof.Rows L2

structure Sc where
  N : List Str
  names : List (Str × NameKind)
  all : Bool
  fns : List String
  cs : List String
  kb : List KE
  gc : Bool
  cl : List Str
def isVis (l : List (Str × NameKind)) (x : Str) : Bool := match l.lookup x with
  | some .local => true | some .cell => true | some .free => true | _ => false
def isLoc (l : List (Str × NameKind)) (x : Str) : Bool := match l.lookup x with
  | some .local => true | some .cell => true | _ => false
def isGl (l : List (Str × NameKind)) (x : Str) : Bool := match l.lookup x with
  | some .globalImplicit => true | _ => false
def isLo (l : List (Str × NameKind)) (x : Str) : Bool := match l.lookup x with
  | some .local => true | _ => false
def noDb (x : Str) : Bool := !(x == ("__debug__" : Str)) && !(x == ("__classdict__" : Str))
def nstar : Expr → Bool
  | .Starred _ _ => false
  | _ => true
def nslice : Expr → Bool
  | .Slice _ _ _ _ => false
  | _ => true
/-- tested by its value -/
def byVal : Expr → Bool
  | .UnaryOp _ _ _ => false
  | .BoolOp _ _ _ => false
  | .IfExp _ _ _ _ => false
  | .Compare _ _ _ _ => false
  | _ => true
def plainBase : Expr → Bool
  | .Name _ _ => true
  | .Subscript _ _ _ => true
  | _ => false
def nset : Expr → Bool
  | .Set _ _ _ => false
  | _ => true
def ncomp : Expr → Bool
  | .ListComp _ _ _ _ => false
  | .SetComp _ _ _ _ => false
  | .DictComp _ _ _ _ _ => false
  | _ => true
def ntup : Expr → Bool
  | .Tuple _ _ _ => false
  | .List _ _ => false
  | _ => true
def biS : Bi → String
  | .len => "len" | .abs => "abs" | .max => "max" | .min => "min" | .int => "int" | .divmod => "divmod" | .all => "all" | .any => "any"
  | .tuple => "tuple" | .list => "list" | .repr => "repr" | .gcd => "gcd" | .sum => "sum"
def biOk : Bi → Bool
  | .gcd => false
  | _ => true
def blkNames (outer : List (Str × NameKind)) (sc : Scope) : List (Str × NameKind) :=
  sc.names.map fun (n, k) => if (k == .free && outer.lookup n == some .cell) then (n, .cell) else (n, k)
def cellsOf (scope : Scope) : List Str := scope.names.filterMap fun y => if scope.names.lookup y.1 == some .cell then some y.1 else none
def ownOf (N : List Str) (own : List Nat) : List (Str × Nat) := own.map fun i => (N.getD i ⟨#[]⟩, i)
mutual
def mE : CE → Sc → Expr → Bool
  | .i n, _, e => match e with
    | .Constant (.int m) _ _ => decide (n = m)
    | _ => false
  | .s x, _, e => match e with
    | .Constant (.str y) _ _ => decide (Str.ofString x = y)
    | _ => false
  | .b x, _, e => match e with
    | .Constant (.bool y) _ _ => decide (x = y)
    | _ => false
  | .non, _, e => match e with
    | .Constant .none _ _ => true
    | _ => false
  | .v i, sc, e => match e with
    | .Name x _ => decide (sc.N[i]? = some x) && isVis sc.names x && noDb x
    | _ => false
  | .g x, sc, e => match e with
    | .Name y _ => decide (Str.ofString x = y) && isGl sc.names y && noDb y && sc.cs.contains x
    | _ => false
  | .tup es, sc, e => match e with
    | .Tuple fs _ _ => mL es sc fs
    | _ => false
  | .lst es, sc, e => match e with
    | .List fs _ => mL es sc fs
    | _ => false
  | .edict, _, e => match e with
    | .Dict [] [] _ => true
    | _ => false
  | .new c, sc, e => mN c sc e
  | .bop op a b, sc, e => match e with
    | .BinOp a' o b' _ => decide (bopO op = o) && mE a sc a' && mE b sc b'
    | _ => false
  | .neg a, sc, e => match e with
    | .UnaryOp .USub a' _ => mE a sc a'
    | _ => false
  | .not a, sc, e => match e with
    | .UnaryOp .Not a' _ => mE a sc a'
    | _ => false
  | .and cs, sc, e => match e with
    | .BoolOp .And es _ => mB cs sc es
    | _ => false
  | .or cs, sc, e => match e with
    | .BoolOp .Or es _ => mB cs sc es
    | _ => false
  | .cmp op a b, sc, e => match e with
    | .Compare a' [o] [b'] _ => decide (copO op = o) && !behindInMarks o b' && mE a sc a' && mE b sc b'
    | _ => false
  | .chain op op2 a b c, sc, e => match e with
    | .Compare a' [o, o2] [b', c'] _ => decide (copO op = o) && decide (copO op2 = o2) && !lastMarks [o, o2] [b', c'] && mE a sc a' && mE b sc b' && mE c sc c'
    | _ => false
  | .ite c a b, sc, e => match e with
    | .IfExp c' a' b' _ => mT c sc c' && mE a sc a' && mE b sc b'
    | _ => false
  | .call f as, sc, e => match e with
    | .Call (.Name x _) es [] _ => decide (Str.ofString f = x) && isGl sc.names x && noDb x && sc.fns.contains f && mL as sc es
    | _ => false
  | .callk q as ks, sc, e => match e with
    | .Call (.Name x _) es kws _ => decide (Str.ofString q.f = x) && isGl sc.names x && noDb x && sc.kb.contains q && decide (as.length = q.n) && decide (kws.map (·.arg) = q.kns.map fun x => some (Str.ofString x)) && mL as sc es && mK ks sc kws
    | _ => false
  | .bi f as, sc, e => match e with
    | .Call (.Name x _) (a' :: es) [] _ => decide (Str.ofString (biS f) = x) && isGl sc.names x && (biOk f || (decide (f = .gcd) && sc.gc)) && mL as sc (a' :: es)
    | _ => false
  | .isi a t, sc, e => match e with
    | .Call (.Name x _) [a', .Name y _] [] _ => decide (("isinstance" : Str) = x) && decide (Str.ofString (tyS t) = y) && isGl sc.names x && isGl sc.names y && nstar a' && mE a sc a'
    | _ => false
  | .ix a b, sc, e => match e with
    | .Subscript a' b' _ => nslice b' && mE a sc a' && mE b sc b'
    | _ => false
  | .sl a lo hi, sc, e => match e with
    | .Subscript a' (.Slice lo' hi' none _) _ => mE a sc a' && mO lo sc lo' && mO hi sc hi'
    | _ => false
  | .nob, _, _ => false
  | .rev a, sc, e => match e with
    | .Subscript a' (.Slice none none (some (.UnaryOp .USub (.Constant (.int 1) _ _) _)) _) _ => mE a sc a'
    | _ => false
  | .lc elt t it ifs own, sc, e => match e with
    | .ListComp elt' [⟨t', it', ifs', 0⟩] scope _ => nset it' && blkC sc.N ⟨.function, sc.names, false, false, []⟩ scope (ownOf sc.N own) && decide (sc.names.length = sc.names.length) &&
        mI it sc t' it' && mG t { sc with names := blkNames sc.names scope, all := false, cl := cellsOf scope } own t' && mIf ifs { sc with names := blkNames sc.names scope, all := false, cl := cellsOf scope } ifs' && mE elt { sc with names := blkNames sc.names scope, all := false, cl := cellsOf scope } elt'
    | _ => false
  | .rng as, sc, e => match e with
    | .Call (.Name y _) [.Call (.Name x _) es [] _] [] _ => decide (("list" : Str) = y) && isGl sc.names y && decide (("range" : Str) = x) && isGl sc.names x && mL as sc es && (decide (es.length = 1) || decide (es.length = 2))
    | _ => false
  | .zip _, _, _ => false
  | .enum _, _, _ => false
  | .ss a, sc, e => match e with
    | .Call (.Name y _) [.Call (.Name x _) [a'] [] _] [] _ => decide (("sorted" : Str) = y) && isGl sc.names y && decide (("set" : Str) = x) && isGl sc.names x && nstar a' && mE a sc a'
    | _ => false
  | .app a b, sc, e => match e with
    | .Call (.Attribute a' m apos) [b'] [] pos => decide (("append" : Str) = m) && decide (apos.endLine = pos.line) && plainBase a' && nstar b' && mE a sc a' && mE b sc b'
    | _ => false
  | .popi a b, sc, e => match e with
    | .Call (.Attribute a' m apos) [b'] [] pos => decide (("pop" : Str) = m) && decide (apos.endLine = pos.line) && plainBase a' && nstar b' && mE a sc a' && mE b sc b'
    | _ => false
  | .pop a, sc, e => match e with
    | .Call (.Attribute a' m apos) [] [] pos => decide (("pop" : Str) = m) && decide (apos.endLine = pos.line) && plainBase a' && mE a sc a'
    | _ => false
/-- what makes a list that is to be changed -/
def mN : CE → Sc → Expr → Bool
  | .lst es, sc, e => match e with
    | .List fs _ => mL es sc fs
    | _ => false
  | .bi f as, sc, e => match e with
    | .Call (.Name x _) (a' :: es) [] _ => decide (f = .list) && decide (("list" : Str) = x) && isGl sc.names x && mL as sc (a' :: es)
    | _ => false
  | .bop op a b, sc, e => match e with
    | .BinOp a' o b' _ => (decide (op = .mul) || decide (op = .add)) && decide (bopO op = o) && mE a sc a' && mE b sc b'
    | _ => false
  | .lc elt t it ifs own, sc, e => match e with
    | .ListComp elt' [⟨t', it', ifs', 0⟩] scope _ => nset it' && blkC sc.N ⟨.function, sc.names, false, false, []⟩ scope (ownOf sc.N own) &&
        mI it sc t' it' && mG t { sc with names := blkNames sc.names scope, all := false, cl := cellsOf scope } own t' && mIf ifs { sc with names := blkNames sc.names scope, all := false, cl := cellsOf scope } ifs' && mE elt { sc with names := blkNames sc.names scope, all := false, cl := cellsOf scope } elt'
    | _ => false
  | _, _, _ => false
def mO : CE → Sc → Option Expr → Bool
  | .nob, _, e => match e with
    | none => true
    | _ => false
  | .i n, _, e => match e with
    | some (.Constant (.int m) _ _) => decide (n = m)
    | _ => false
  | .v i, sc, e => match e with
    | some (.Name x _) => decide (sc.N[i]? = some x) && isVis sc.names x && noDb x
    | _ => false
  | .neg a, sc, e => match e with
    | some (.UnaryOp .USub a' _) => mE a sc a'
    | _ => false
  | .bop op a b, sc, e => match e with
    | some (.BinOp a' o b' _) => decide (bopO op = o) && mE a sc a' && mE b sc b'
    | _ => false
  | .ix a b, sc, e => match e with
    | some (.Subscript a' b' _) => nslice b' && mE a sc a' && mE b sc b'
    | _ => false
  | .call f as, sc, e => match e with
    | some (.Call (.Name x _) es [] _) => decide (Str.ofString f = x) && isGl sc.names x && noDb x && sc.fns.contains f && mL as sc es
    | _ => false
  | _, _, _ => false
def mL : List CE → Sc → List Expr → Bool
  | [], _, es => match es with
    | [] => true
    | _ => false
  | c :: cs, sc, es => match es with
    | e :: es => nstar e && mE c sc e && mL cs sc es
    | _ => false
def mK : List CE → Sc → List Keyword → Bool
  | [], _, es => match es with
    | [] => true
    | _ => false
  | c :: cs, sc, es => match es with
    | ⟨_, e, _⟩ :: es => mE c sc e && mK cs sc es
    | _ => false
/-- and, or: one at least -/
def mB : List CE → Sc → List Expr → Bool
  | [], _, _ => false
  | [c], sc, es => match es with
    | [e] => mE c sc e
    | _ => false
  | c :: cs, sc, es => match es with
    | e :: f :: es => mE c sc e && mB cs sc (f :: es)
    | _ => false
def mBT : List CE → Sc → List Expr → Bool
  | [], _, _ => false
  | [c], sc, es => match es with
    | [e] => mT c sc e
    | _ => false
  | c :: cs, sc, es => match es with
    | e :: f :: es => mT c sc e && mBT cs sc (f :: es)
    | _ => false
def mT : CE → Sc → Expr → Bool
  | .and cs, sc, e => match e with
    | .BoolOp .And es _ => mBT cs sc es
    | _ => false
  | .or cs, sc, e => match e with
    | .BoolOp .Or es _ => mBT cs sc es
    | _ => false
  | .not a, sc, e => match e with
    | .UnaryOp .Not a' _ => mT a sc a'
    | _ => false
  | .ite c a b, sc, e => match e with
    | .IfExp c' a' b' _ => mT c sc c' && mT a sc a' && mT b sc b'
    | _ => false
  | .i n, _, e => match e with
    | .Constant (.int m) _ _ => decide (n = m)
    | _ => false
  | .s x, _, e => match e with
    | .Constant (.str y) _ _ => decide (Str.ofString x = y)
    | _ => false
  | .b x, _, e => match e with
    | .Constant (.bool y) _ _ => decide (x = y)
    | _ => false
  | .non, _, e => match e with
    | .Constant .none _ _ => true
    | _ => false
  | .v i, sc, e => match e with
    | .Name x _ => decide (sc.N[i]? = some x) && isVis sc.names x && noDb x
    | _ => false
  | .cmp op a b, sc, e => match e with
    | .Compare a' [o] [b'] _ => decide (copO op = o) && !behindInMarks o b' && mE a sc a' && mE b sc b'
    | _ => false
  | .chain op op2 a b c, sc, e => match e with
    | .Compare a' [o, o2] [b', c'] _ => decide (copO op = o) && decide (copO op2 = o2) && !lastMarks [o, o2] [b', c'] && mE a sc a' && mE b sc b' && mE c sc c'
    | _ => false
  | .call f as, sc, e => match e with
    | .Call (.Name x _) es [] _ => decide (Str.ofString f = x) && isGl sc.names x && noDb x && sc.fns.contains f && mL as sc es
    | _ => false
  | .callk q as ks, sc, e => match e with
    | .Call (.Name x _) es kws _ => decide (Str.ofString q.f = x) && isGl sc.names x && noDb x && sc.kb.contains q && decide (as.length = q.n) && decide (kws.map (·.arg) = q.kns.map fun x => some (Str.ofString x)) && mL as sc es && mK ks sc kws
    | _ => false
  | .bi f as, sc, e => match e with
    | .Call (.Name x _) (a' :: es) [] _ => decide (Str.ofString (biS f) = x) && isGl sc.names x && (biOk f || (decide (f = .gcd) && sc.gc)) && mL as sc (a' :: es)
    | _ => false
  | .isi a t, sc, e => match e with
    | .Call (.Name x _) [a', .Name y _] [] _ => decide (("isinstance" : Str) = x) && decide (Str.ofString (tyS t) = y) && isGl sc.names x && isGl sc.names y && nstar a' && mE a sc a'
    | _ => false
  | .ix a b, sc, e => match e with
    | .Subscript a' b' _ => nslice b' && mE a sc a' && mE b sc b'
    | _ => false
  | _, _, _ => false
def mIf : List CE → Sc → List Expr → Bool
  | [], _, es => match es with
    | [] => true
    | _ => false
  | [c], sc, es => match es with
    | [e] => mT c sc e
    | _ => false
  | _ :: _ :: _, _, _ => false
/-- what is walked, with the target -/
def mI : CE → Sc → Expr → Expr → Bool
  | .rng as, sc, _, e => match e with
    | .Call (.Name x _) es [] _ => decide (("range" : Str) = x) && isGl sc.names x && mL as sc es && (decide (es.length = 1) || decide (es.length = 2))
    | _ => false
  | .zip as, sc, t, e => match e with
    | .Call (.Name x _) es [] _ => decide (("zip" : Str) = x) && isGl sc.names x && mL as sc es && (decide (es.length = 2) || decide (es.length = 3)) && (match t with | .Tuple _ _ _ => true | _ => false)
    | _ => false
  | .enum a, sc, t, e => match e with
    | .Call (.Name x _) [a'] [] _ => decide (("enumerate" : Str) = x) && isGl sc.names x && nstar a' && mE a sc a' && (match t with | .Tuple _ _ _ => true | _ => false)
    | _ => false
  | .v i, sc, _, e => match e with
    | .Name x _ => decide (sc.N[i]? = some x) && isVis sc.names x && noDb x
    | _ => false
  | .g x, sc, _, e => match e with
    | .Name y _ => decide (Str.ofString x = y) && isGl sc.names y && noDb y && sc.cs.contains x
    | _ => false
  | .tup es, sc, _, e => match e with
    | .Tuple fs _ _ => mL es sc fs
    | _ => false
  | .lst es, sc, _, e => match e with
    | .List fs _ => mL es sc fs
    | _ => false
  | .ix a b, sc, _, e => match e with
    | .Subscript a' b' _ => nslice b' && mE a sc a' && mE b sc b'
    | _ => false
  | .sl a lo hi, sc, _, e => match e with
    | .Subscript a' (.Slice lo' hi' none _) _ => mE a sc a' && mO lo sc lo' && mO hi sc hi'
    | _ => false
  | .call f as, sc, _, e => match e with
    | .Call (.Name x _) es [] _ => decide (Str.ofString f = x) && isGl sc.names x && noDb x && sc.fns.contains f && mL as sc es
    | _ => false
  | .bop op a b, sc, _, e => match e with
    | .BinOp a' o b' _ => decide (bopO op = o) && mE a sc a' && mE b sc b'
    | _ => false
  | .bi f as, sc, _, e => match e with
    | .Call (.Name x _) (a' :: es) [] _ => decide (Str.ofString (biS f) = x) && isGl sc.names x && (biOk f || (decide (f = .gcd) && sc.gc)) && mL as sc (a' :: es)
    | _ => false
  | .ss a, sc, _, e => match e with
    | .Call (.Name y _) [.Call (.Name x _) [a'] [] _] [] _ => decide (("sorted" : Str) = y) && isGl sc.names y && decide (("set" : Str) = x) && isGl sc.names x && nstar a' && mE a sc a'
    | _ => false
  | .lc elt t it ifs own, sc, _, e => match e with
    | .ListComp elt' [⟨t', it', ifs', 0⟩] scope _ => nset it' && blkC sc.N ⟨.function, sc.names, false, false, []⟩ scope (ownOf sc.N own) && decide (sc.names.length = sc.names.length) &&
        mI it sc t' it' && mG t { sc with names := blkNames sc.names scope, all := false, cl := cellsOf scope } own t' && mIf ifs { sc with names := blkNames sc.names scope, all := false, cl := cellsOf scope } ifs' && mE elt { sc with names := blkNames sc.names scope, all := false, cl := cellsOf scope } elt'
    | _ => false
  | _, _, _, _ => false
/-- a target that writes the slots vs alone -/
def mG : Tg → Sc → List Nat → Expr → Bool
  | .v i, sc, vs, e => match e with
    | .Name x _ => decide (sc.N[i]? = some x) && isLoc sc.names x && (sc.all || isLo sc.names x || sc.cl.contains x) && vs.contains i
    | _ => false
  | .t ts, sc, vs, e => match e with
    | .Tuple es _ _ => mGs ts sc vs es
    | _ => false
  | .ix a b, sc, _, e => match e with
    | .Subscript a' b' _ => nslice b' && mE a sc a' && mE b sc b'
    | _ => false
def mGs : List Tg → Sc → List Nat → List Expr → Bool
  | [], _, _, es => match es with
    | [] => true
    | _ => false
  | t :: ts, sc, vs, es => match es with
    | e :: es => nstar e && mG t sc vs e && mGs ts sc vs es
    | _ => false
end
end Sx
set_option Elab.async false
set_option linter.all false
set_option maxHeartbeats 4000000
/-! Sx, part L: the checked reading is sound: expressions. -/
namespace Sx
open PySem PySem.Spec PyProof.Rows L2

/-- what a def at its level promises -/
def SpK (xq : XK → XW) (K : PySem.W.Frag) (n : Nat) (fn : List R → Store → Out R) : Sp := fun vs H Q E => vs.length = n ∧ ∃ rs S F, Wok K H S F ∧ RepAll K H S F vs rs ∧ Post K (xq E) H S F (fn rs S) (fun r S' F' H' => ∀ v, RepR K H' S' F' v r → Q v H')
def biNames : List String := ["len", "abs", "max", "min", "int", "divmod", "all", "any", "tuple", "list", "repr", "sum", "isinstance", "bool", "str", "dict", "range", "zip", "enumerate", "sorted", "set"]
structure FnT (xq : XK → XW) (P : Program) (w : World) (K : PySem.W.Frag) (mg : Str → Option Value) (base : Heap) (CX : CXT) (k : Nat) (f : String) (fn : List R → Store → Out R) : Prop where
  ex : ∃ (a : Addr) (fd : FuncData) (ps : List Str), mg (Str.ofString f) = some (.ref a) ∧ PySem.W.keepIn K (.ref a) = true ∧ Binds K fd ps [] ∧ FnG P w K mg base CX k a fd ps (SpK xq K ps.length fn) ∧ ∀ rs S, fn rs S ≠ .bad → rs.length = ps.length
/-- a def that is called with keywords, or by its defaults -/
structure FnK (xq : XK → XW) (P : Program) (w : World) (K : PySem.W.Frag) (mg : Str → Option Value) (base : Heap) (CX : CXT) (k : Nat) (q : KE) (fn : List R → Store → Out R) : Prop where
  ex : ∃ (a : Addr) (fd : FuncData) (ps : List Str), mg (Str.ofString q.f) = some (.ref a) ∧ PySem.W.keepIn K (.ref a) = true ∧ FnG P w K mg base CX k a fd ps (SpK xq K ps.length fn) ∧ (∀ rs S, fn rs S ≠ .bad → rs.length = ps.length) ∧
    ∀ (s : Shared) (us ws : List Value), K.In s.heap → us.length = q.n → ws.length = q.kns.length → ∃ bs : List Value, BindsTo s fd ⟨us, (q.kns.map Str.ofString).zip ws⟩ (ps.zip bs) ∧ ∀ vs zs : List V, Vals vs us → Vals zs ws → Vals (q.pm.map fun i => (vs ++ zs ++ q.dv.map V.int).getD i .non) bs
structure Gx (fns cs : List String) (kb : List KE) (C : Fns) (G : String → Option D) (xq : XK → XW) (CX : CXT) (k : Nat) (X : Cx) (Xq : XW) : Prop where
  calm : X.calm = true
  nd : X.N.Nodup
  units : X.A.units + 100 < cLine
  guards : X.A.guards = some []
  room : Room k X.A
  kind : X.env.scope.kind = .function
  lit : LitOk X.K X.w
  call : ∀ f, fns.contains f = true → FnT xq X.prog X.w X.K X.mg X.base CX k f (C f)
  callk : ∀ q, kb.contains q = true → FnK xq X.prog X.w X.K X.mg X.base CX k q (C q.f)
  blt : ∀ b, b ∈ biNames → X.mg (Str.ofString b) = none
  glob : ∀ x, cs.contains x = true → ∃ y v u, G x = some y ∧ X.mg (Str.ofString x) = some u ∧ RelV v u ∧ ∀ H A, Da X.K H A v y
  noX : ∀ outer H s e s', ¬ CX outer H s (fun _ _ _ => False) e s'
  pass : ∃ E, Passes CX X E ∧ ∀ x S F H, Xq x S F H → xq E x S F H
structure ScOk (fns cs : List String) (kb : List KE) (sc : Sc) (X : Cx) : Prop where
  N : sc.N = X.N
  names : X.env.scope.names = sc.names
  all : sc.all = true → ∀ x, X.fn x = true
  fns : sc.fns = fns
  cs : sc.cs = cs
  kb : sc.kb = kb
  gc : sc.gc = true → X.mg (Str.ofString "gcd") = some (.builtin "math.gcd")
  cl : ∀ x ∈ sc.cl, X.fn x = true
theorem cells_of {scope : Scope} {x : Str} (h : x ∈ cellsOf scope) : (scope.names.lookup x == some .cell) = true := by
  unfold cellsOf at h
  obtain ⟨y, _, hy⟩ := List.mem_filterMap.mp h
  split at hy
  · rename_i q
    cases hy
    exact q
  · cases hy
section
variable {fns cs : List String} {kb : List KE} {C : Fns} {G : String → Option D} {xq : XK → XW} {CX : CXT} {k : Nat} {X : Cx} {Xq : XW}
theorem Gx.blk (g : Gx fns cs kb C G xq CX k X Xq) {s : Shared} {H : Hp} {scope : Scope} {env : PySem.Env} {fp : List Addr} (hk : env.scope.kind = .function) : Gx fns cs kb C G xq CX k (X.blk s H scope env fp) XF :=
  ⟨g.calm, g.nd, g.units, g.guards, g.room, hk, g.lit, g.call, g.callk, g.blt, g.glob, g.noX, fun _ _ _ => False, fun pins st H s e s' I h => (g.noX _ _ _ _ _ h).elim, fun _ _ _ _ h => h.elim⟩
theorem vis_of {sc : Scope} {x : Str} (h : isVis sc.names x = true) : Vis sc x := by
  unfold isVis at h
  unfold Vis
  split at h <;> simp_all
theorem loc_of {sc : Scope} {x : Str} (h : isLoc sc.names x = true) : L2.Loc sc x := by
  unfold isLoc at h
  unfold L2.Loc
  split at h <;> simp_all
theorem lo_of {l : List (Str × NameKind)} {x : Str} (h : isLo l x = true) : l.lookup x = some .local := by
  unfold isLo at h
  split at h <;> simp_all
theorem gl_of {x : Str} (h : isGl X.env.scope.names x = true) : Gl X x := by
  unfold isGl at h
  show X.env.scope.names.lookup x = _
  split at h <;> simp_all
theorem db_of {x : Str} (h : noDb x = true) : (x == ("__debug__" : Str)) = false ∧ (x == ("__classdict__" : Str)) = false := by
  unfold noDb at h
  simpa using h
theorem star_of {a : Expr} {r : List Expr} {env : PySem.Env} (h : nstar a = true) : starEach (a :: r) env = (false, eval a env) :: starEach r env := by
  cases a <;> first | rfl | cases h
theorem star_any {pos : Pos} {env : PySem.Env} : ∀ {es : List Expr}, es.all nstar = true → (backTo pos (starEach es env)).any (·.1) = false
  | [], _ => rfl
  | a :: es, h => by
    rw [List.all_cons, Bool.and_eq_true] at h
    rw [star_of h.1]
    have ih := star_any (pos := pos) (env := env) h.2
    unfold backTo at ih ⊢
    rw [List.map_cons, List.any_cons, ih]
    rfl
theorem slice_of {b : Expr} (h : nslice b = true) : PlainIx b := by
  intro o i
  cases b <;> first | rfl | cases h
theorem val_of {a : Expr} {env : PySem.Env} (h : byVal a = true) : ∀ whole, isTrue a env whole = (do let v ← whole; standAt a.pos; holding [v] (truthy v)) := by
  intro whole
  cases a <;> first | rfl | cases h
theorem base_of {a : Expr} {env : PySem.Env} {m : Str} (h : plainBase a = true) : attributeBase a m env (eval a env) = eval a env := by
  cases a <;> first | rfl | cases h
theorem set_of {a : Expr} {env : PySem.Env} (h : nset a = true) : ∀ x, foldedSetIterable a env x = pure x := by
  intro x
  cases a <;> first | rfl | cases h
/-- a call of a def -/
theorem pe_callGd0 {f : Addr} {fd : FuncData} {ps : List Str} {sp : Sp} {E : XK} {x : Str} {p pos : Pos} (F : FnG X.prog X.w X.K X.mg X.base CX k f fd ps sp) (hr : Room k X.A) (hgu : X.A.guards = some []) (hg : Gl X x) (hm : X.mg x = some (.ref f)) (hk : PySem.W.keepIn X.K (.ref f) = true) (hb : Binds X.K fd ps []) (hx : Passes CX X E)
    (hdb : (x == ("__debug__" : Str)) = false) : PE X (.Call (.Name x p) [] [] pos) (fun st H Q => sp [] H Q E) := by
  refine ⟨fun pins s st H Q I h => ?_⟩
  refine wpAny_Call_Name_kw (ld_glob I hg hm ?_ hdb)
  exact PySem.W.callWith_K0 I.kIn hk (runG F hr hgu hx I .nil (fun hl => by have := hb s [] I.kIn (by simpa using hl); simpa using this) h)
theorem spk_at {f : String} {n : Nat} {E : XK} (hl : ∀ rs S, C f rs S ≠ .bad → rs.length = n) (hxq : ∀ x S F H, Xq x S F H → xq E x S F H) {rs : List R} {S1 : Store} {F1 : Nat → Addr} {H1 : Hp} {vs : List V} {Q : VK} (w : Wok X.K H1 S1 F1) (hv : RepAll X.K H1 S1 F1 vs rs)
    (p : Post X.K Xq H1 S1 F1 (C f rs S1) (fun r S' F' H' => ∀ v, RepR X.K H' S' F' v r → Q v H')) : SpK xq X.K n (C f) vs H1 Q E := by
  refine ⟨by rw [hv.length]; exact hl rs S1 p.nb, rs, S1, F1, w, hv, ?_⟩
  cases hc : C f rs S1 with
  | ok r S2 => rw [hc] at p; exact p
  | exc y S2 => rw [hc] at p; exact fun H2 F2 w2 l2 => hxq _ _ _ _ (p H2 F2 w2 l2)
  | bad => rw [hc] at p; exact p
theorem se_call0 {f : String} {p pos : Pos} (g : Gx fns cs kb C G xq CX k X Xq) (hf : fns.contains f = true) (hg : Gl X (Str.ofString f)) (hd : ((Str.ofString f) == ("__debug__" : Str)) = false) :
    SE X Xq (.Call (.Name (Str.ofString f) p) [] [] pos) (fun e S => C f [] S) := by
  obtain ⟨a, fd, ps, hm, hk, hb, F, hl⟩ := (g.call f hf).ex
  obtain ⟨E, hx, hxq⟩ := g.pass
  refine (pe_callGd0 F g.room g.guards hg hm hk hb hx hd).weak fun st H Q h => ?_
  obtain ⟨e, S, F, w, re, p⟩ := h
  exact spk_at hl hxq w .nil p
theorem se_call {f : String} {p pos : Pos} {e : Expr} {es : List Expr} {fl : Ev → Store → Out (List R)} (g : Gx fns cs kb C G xq CX k X Xq) (hf : fns.contains f = true) (hg : Gl X (Str.ofString f)) (hd : ((Str.ofString f) == ("__debug__" : Str)) = false) (ha : SA X Xq (e :: es) fl) (hs : (e :: es).all nstar = true) :
    SE X Xq (.Call (.Name (Str.ofString f) p) (e :: es) [] pos) (fun e S => (fl e S).bind fun rs S1 => C f rs S1) := by
  obtain ⟨a, fd, ps, hm, hk, hb, F, hl⟩ := (g.call f hf).ex
  obtain ⟨E, hx, hxq⟩ := g.pass
  rw [List.all_cons, Bool.and_eq_true] at hs
  exact (pe_callGd F g.room g.guards hg hm hk hb hx ha hd (star_of hs.1) (star_any hs.2)).weak fun st H Q h => EX.a (g := fun e rs S1 => C f rs S1) h fun e rs S1 F1 H1 vs w re hv p => spk_at hl hxq w hv p
/-- a call with keywords -/
theorem kw_of {pos : Pos} {env : PySem.Env} : ∀ {kws : List Keyword} {ks : List Str}, kws.map (·.arg) = ks.map some →
    (backToKw pos (keywordEach kws env)).all (·.1.isSome) = true ∧ (backToKw pos (keywordEach kws env)).filterMap (·.1) = ks ∧ (backToKw pos (keywordEach kws env)).any (·.1.isNone) = false
  | [], [], _ => ⟨rfl, rfl, rfl⟩
  | [], _ :: _, h => by cases h
  | _ :: _, [], h => by cases h
  | ⟨nm, e, kp⟩ :: kws, y :: ks, h => by
    rw [List.map_cons, List.map_cons, List.cons.injEq] at h
    obtain ⟨h1, h2⟩ := h
    have h1 : nm = some y := h1
    subst h1
    obtain ⟨i1, i2, i3⟩ := kw_of (pos := pos) (env := env) h2
    have e0 : backToKw pos (keywordEach (⟨some y, e, kp⟩ :: kws) env) = (some y, do let v ← eval e env; standAt pos; pure v) :: backToKw pos (keywordEach kws env) := rfl
    rw [e0]
    exact ⟨by rw [List.all_cons, i1]; rfl, by rw [List.filterMap_cons, i2], by rw [List.any_cons, i3]; rfl⟩
theorem pe_callKG {f : Addr} {fd : FuncData} {ps : List Str} {sp : Sp} {E : XK} {x : Str} {p pos : Pos} {e : Expr} {es : List Expr} {kws : List Keyword} {ks : List Str} {t tk : TA} {n : Nat} {gv : List V → List V → List V} (F : FnG X.prog X.w X.K X.mg X.base CX k f fd ps sp) (hr : Room k X.A) (hgu : X.A.guards = some []) (hg : Gl X x) (hm : X.mg x = some (.ref f)) (hk : PySem.W.keepIn X.K (.ref f) = true)
    (hb : ∀ (s : Shared) (us ws : List Value), X.K.In s.heap → us.length = n → ws.length = ks.length → ∃ bs : List Value, BindsTo s fd ⟨us, ks.zip ws⟩ (ps.zip bs) ∧ ∀ vs zs : List V, Vals vs us → Vals zs ws → Vals (gv vs zs) bs) (hx : Passes CX X E)
    (ha : PA X (e :: es) t) (hkw : PK X kws tk) (hks : kws.map (·.arg) = ks.map some) (hs : (e :: es).all nstar = true) (hdb : (x == ("__debug__" : Str)) = false) :
    PE X (.Call (.Name x p) (e :: es) kws pos) (fun st H Q => t st H fun vs H1 => tk st H1 fun zs H2 => vs.length = n ∧ zs.length = ks.length ∧ sp (gv vs zs) H2 Q E) := by
  refine ⟨fun pins s st H Q I h => ?_⟩
  refine wpAny_Call_Name_kw (ld_glob I hg hm ?_ hdb)
  obtain ⟨k1, k2, k3⟩ := kw_of (pos := pos) (env := X.env) hks
  rw [List.all_cons, Bool.and_eq_true] at hs
  refine PySem.W.callWith_KW (h₀ := X.base) I.ok.mod.kin hk k1 (thn (ha.run pos pins s st H _ I h) fun us s1 ⟨vs, H1, I1, r, q⟩ => ?_) (by rw [k3, star_of hs.1]; have := star_any (pos := pos) (env := X.env) hs.2; unfold backTo at this ⊢; rw [List.map_cons, List.any_cons, this]; rfl) (star_of hs.1)
  refine thn (hkw.run pos pins s1 st H1 _ I1 q) fun ws s2 ⟨zs, H2, I2, rz, l1, l2, q2⟩ => ⟨I2.kIn, ?_⟩
  rw [k2]
  obtain ⟨bs, b1, b2⟩ := hb s2 us ws I2.kIn (r.length.symm.trans l1) (rz.length.symm.trans l2)
  exact runG F hr hgu hx I2 (b2 vs zs r rz) (fun _ => b1) q2
theorem pe_callKG0 {f : Addr} {fd : FuncData} {ps : List Str} {sp : Sp} {E : XK} {x : Str} {p pos : Pos} {kws : List Keyword} {ks : List Str} {tk : TA} {n : Nat} {gv : List V → List V → List V} (F : FnG X.prog X.w X.K X.mg X.base CX k f fd ps sp) (hr : Room k X.A) (hgu : X.A.guards = some []) (hg : Gl X x) (hm : X.mg x = some (.ref f)) (hk : PySem.W.keepIn X.K (.ref f) = true)
    (hb : ∀ (s : Shared) (us ws : List Value), X.K.In s.heap → us.length = n → ws.length = ks.length → ∃ bs : List Value, BindsTo s fd ⟨us, ks.zip ws⟩ (ps.zip bs) ∧ ∀ vs zs : List V, Vals vs us → Vals zs ws → Vals (gv vs zs) bs) (hx : Passes CX X E)
    (hkw : PK X kws tk) (hks : kws.map (·.arg) = ks.map some) (hdb : (x == ("__debug__" : Str)) = false) :
    PE X (.Call (.Name x p) [] kws pos) (fun st H Q => tk st H fun zs H2 => 0 = n ∧ zs.length = ks.length ∧ sp (gv [] zs) H2 Q E) := by
  refine ⟨fun pins s st H Q I h => ?_⟩
  refine wpAny_Call_Name_kw (ld_glob I hg hm ?_ hdb)
  obtain ⟨k1, k2, k3⟩ := kw_of (pos := pos) (env := X.env) hks
  refine PySem.W.callWith_KW0 (h₀ := X.base) I.ok.mod.kin hk k1 ?_ (by rw [k3]; rfl)
  refine thn (hkw.run pos pins s st H _ I h) fun ws s2 ⟨zs, H2, I2, rz, l1, l2, q2⟩ => ⟨I2.kIn, ?_⟩
  rw [k2]
  obtain ⟨bs, b1, b2⟩ := hb s2 [] ws I2.kIn (by simpa using l1) (rz.length.symm.trans l2)
  exact runG F hr hgu hx I2 (b2 [] zs .nil rz) (fun _ => b1) q2
abbrev SK (X : Cx) (Xq : XW) (es : List Keyword) (f : Ev → Store → Out (List R)) : Prop := PK X es (RA X.K Xq f)
theorem sk_nil : SK X Xq [] (fun _ S => .ok [] S) := pk_nil.weak fun st H Q ⟨e, S, F, w, re, p⟩ => p.ok w [] .nil
theorem sk_cons {nm : Option Str} {kp : Pos} {a : Expr} {fa : Fe} {kws : List Keyword} {fl : Ev → Store → Out (List R)} (ha : SE X Xq a fa) (hr : SK X Xq kws fl) :
    SK X Xq (⟨nm, a, kp⟩ :: kws) (fun e S => (fa e S).bind fun x S1 => (fl e S1).bind fun xs S2 => .ok (x :: xs) S2) :=
  (pk_cons ha hr).weak fun st H Q h => by
    obtain ⟨e, S, F, w, re, p⟩ := h
    refine ⟨e, S, F, w, re, p.bind.imp fun x S1 F1 H1 w1 l1 p1 v hv => ?_⟩
    exact ⟨e, S1, F1, w1, re.le l1, p1.bind.imp fun xs S2 F2 H2 w2 l2 p2 vs hvs => p2.ok w2 _ (.cons (hv.le l2) hvs)⟩
theorem RepAll.getD {K : PySem.W.Frag} {H : Hp} {S : Store} {F : Nat → Addr} {vs : List V} {rs : List R} (h : RepAll K H S F vs rs) (i : Nat) : RepR K H S F (vs.getD i .non) (rs.getD i (.d .none)) := by
  rw [List.getD_eq_getElem?_getD, List.getD_eq_getElem?_getD]
  cases e : rs[i]? with
  | some r =>
    obtain ⟨v, e1, e2⟩ := h.get e
    rw [e1]; exact e2
  | none =>
    have : vs[i]? = none := by
      rw [List.getElem?_eq_none_iff] at e ⊢
      rw [h.length]; exact e
    rw [this]
    exact Da.non
theorem RepAll.pick {K : PySem.W.Frag} {H : Hp} {S : Store} {F : Nat → Addr} {vs zs : List V} {rs qs : List R} {q : KE} (h : RepAll K H S F vs rs) (h2 : RepAll K H S F zs qs) :
    RepAll K H S F (q.pm.map fun i => (vs ++ zs ++ q.dv.map V.int).getD i .non) (q.pick rs qs) := by
  have h3 : RepAll K H S F (q.dv.map V.int) (q.dv.map fun n => R.d (.int n)) := by
    induction q.dv with
    | nil => exact .nil
    | cons n l ih => exact .cons (Da.int n) ih
  have h4 := (h.append h2).append h3
  unfold KE.pick
  induction q.pm with
  | nil => exact .nil
  | cons i l ih => exact .cons (h4.getD i) ih
theorem dL_len {C : Fns} {G : String → Option D} : ∀ (l : List CE) (e : Ev) (S S1 : Store) (rs : List R), dL C G l e S = .ok rs S1 → rs.length = l.length := by
  intro l
  induction l with
  | nil => intro e S S1 rs h; cases h; rfl
  | cons c l ih =>
    intro e S S1 rs h
    have h : ((dE C G c e S).bind fun x S1 => (dL C G l e S1).bind fun xs S2 => Out.ok (x :: xs) S2) = .ok rs S1 := h
    cases h1 : dE C G c e S with
    | bad => rw [h1] at h; cases h
    | exc _ _ => rw [h1] at h; cases h
    | ok x S3 =>
      rw [h1, Out.bind_ok] at h
      cases h2 : dL C G l e S3 with
      | bad => rw [h2] at h; cases h
      | exc _ _ => rw [h2] at h; cases h
      | ok xs S4 =>
        rw [h2] at h; cases h
        rw [List.length_cons, List.length_cons, ih _ _ _ _ h2]
theorem Post.bindE {t u : Type} {K : PySem.W.Frag} {Xq : XW} {H : Hp} {S : Store} {F : Nat → Addr} {o : Out t} {g : t → Store → Out u} {Q : u → Store → (Nat → Addr) → Hp → Prop} (h : Post K Xq H S F (o.bind g) Q) :
    Post K Xq H S F o (fun a S1 F1 H1 => o = .ok a S1 ∧ Post K Xq H1 S1 F1 (g a S1) Q) := by
  cases o with
  | ok a S1 => exact fun H1 F1 k l => ⟨rfl, Post.mono l h⟩
  | exc x S1 => exact h
  | bad => exact h
theorem se_callk {q : KE} {p pos : Pos} {es : List Expr} {kws : List Keyword} {as ks : List CE} (g : Gx fns cs kb C G xq CX k X Xq) (hq : kb.contains q = true) (hg : Gl X (Str.ofString q.f)) (hd : ((Str.ofString q.f) == ("__debug__" : Str)) = false) (hn : as.length = q.n) (hl : as.length = es.length) (hkl : ks.length = kws.length) (hks : kws.map (·.arg) = q.kns.map fun x => some (Str.ofString x)) (hs : es.all nstar = true)
    (ha : SA X Xq es (dL C G as)) (hk : SK X Xq kws (dL C G ks)) :
    SE X Xq (.Call (.Name (Str.ofString q.f) p) es kws pos) (fun e S => (dL C G as e S).bind fun rs S1 => (dL C G ks e S1).bind fun qs S2 => C q.f (q.pick rs qs) S2) := by
  obtain ⟨a, fd, ps, hm, hkp, F, hlen, hb⟩ := (g.callk q hq).ex
  obtain ⟨E, hx, hxq⟩ := g.pass
  have hks' : kws.map (·.arg) = (q.kns.map Str.ofString).map some := by rw [hks, List.map_map]; rfl
  have kl : ks.length = (q.kns.map Str.ofString).length := by
    have := congrArg List.length hks
    rw [List.length_map, List.length_map] at this
    rw [hkl, this, List.length_map]
  have hb' : ∀ (s : Shared) (us ws : List Value), X.K.In s.heap → us.length = q.n → ws.length = (q.kns.map Str.ofString).length → ∃ bs : List Value, BindsTo s fd ⟨us, (q.kns.map Str.ofString).zip ws⟩ (ps.zip bs) ∧ ∀ vs zs : List V, Vals vs us → Vals zs ws → Vals ((fun vs zs => q.pm.map fun i => (vs ++ zs ++ q.dv.map V.int).getD i .non) vs zs) bs :=
    fun s us ws k1 k2 k3 => hb s us ws k1 k2 (by rw [k3, List.length_map])
  cases es with
  | nil =>
    have : as = [] := List.eq_nil_of_length_eq_zero hl
    subst this
    refine (pe_callKG0 F g.room g.guards hg hm hkp hb' hx hk hks' hd).weak fun st H Q h => ?_
    obtain ⟨e, S, F, w, re, p⟩ := h
    have p : Post X.K Xq H S F ((dL C G ks e S).bind fun qs S2 => C q.f (q.pick [] qs) S2) _ := p
    refine ⟨e, S, F, w, re, p.bindE.imp fun qs S2 F2 H2 w2 l2 p2 zs hz => ⟨hn, ?_, ?_⟩⟩
    · rw [hz.length, dL_len _ _ _ _ _ p2.1, kl]
    · exact spk_at hlen hxq w2 (RepAll.pick .nil hz) p2.2
  | cons e1 es =>
    refine (pe_callKG F g.room g.guards hg hm hkp hb' hx ha hk hks' hs hd).weak fun st H Q h => ?_
    obtain ⟨e, S, F, w, re, p⟩ := h
    refine ⟨e, S, F, w, re, p.bindE.imp fun rs S1 F1 H1 w1 l1 p1 vs hv => ?_⟩
    refine ⟨e, S1, F1, w1, re.le l1, p1.2.bindE.imp fun qs S2 F2 H2 w2 l2 p2 zs hz => ⟨?_, ?_, ?_⟩⟩
    · rw [hv.length, dL_len _ _ _ _ _ p1.1, hn]
    · rw [hz.length, dL_len _ _ _ _ _ p2.1, kl]
    · exact spk_at hlen hxq w2 (RepAll.pick (hv.le l2) hz) p2.2
/-- a built-in by its name -/
theorem se_bi {f : Bi} {p pos : Pos} {e : Expr} {es : List Expr} {fl : Ev → Store → Out (List R)} (g : Gx fns cs kb C G xq CX k X Xq) (hf : biOk f = true ∨ (f = .gcd ∧ X.mg (Str.ofString "gcd") = some (.builtin "math.gcd"))) (hg : Gl X (Str.ofString (biS f))) (ha : SA X Xq (e :: es) fl) (hs : (e :: es).all nstar = true) :
    SE X Xq (.Call (.Name (Str.ofString (biS f)) p) (e :: es) [] pos) (fun e S => (fl e S).bind fun rs S1 => lift ((asDs S1 rs).bind fun ds => (biD f ds).map R.d) S1) := by
  rw [List.all_cons, Bool.and_eq_true] at hs
  have h1 := star_of (r := es) (env := X.env) hs.1
  have h2 := star_any (pos := pos) (env := X.env) hs.2
  have hc := g.calm
  have hb : ∀ b, b ∈ biNames → X.mg (Str.ofString b) = none := g.blt
  cases f with
  | len => exact se_blt call_len cs_len hg (hb "len" (by decide)) boot_len ha (by decide) (by decide) h1 h2
  | abs => exact se_blt call_abs cs_abs hg (hb "abs" (by decide)) boot_abs ha (by decide) (by decide) h1 h2
  | max => exact se_blt (call_max2 hc) cs_max hg (hb "max" (by decide)) boot_max ha (by decide) (by decide) h1 h2
  | min => exact se_blt (call_min2 hc) cs_min hg (hb "min" (by decide)) boot_min ha (by decide) (by decide) h1 h2
  | int => exact se_bty call_int1 cs_int hg (hb "int" (by decide)) boot_int ha (by decide) (by decide) h1 h2
  | divmod => exact se_blt call_divmodW cs_divmod hg (hb "divmod" (by decide)) boot_divmod ha (by decide) (by decide) h1 h2
  | all => exact se_blt (cr_all hc) cs_all hg (hb "all" (by decide)) boot_all ha (by decide) (by decide) h1 h2
  | any => exact se_blt (cr_any hc) cs_any hg (hb "any" (by decide)) boot_any ha (by decide) (by decide) h1 h2
  | tuple => exact se_bty call_tuple_of cs_tuple hg (hb "tuple" (by decide)) boot_tuple ha (by decide) (by decide) h1 h2
  | list => exact se_bty call_list_of cs_list hg (hb "list" (by decide)) boot_list ha (by decide) (by decide) h1 h2
  | repr => exact se_blt (call_reprD g.guards g.units) cs_repr hg (hb "repr" (by decide)) boot_repr ha (by decide) (by decide) h1 h2
  | gcd =>
    rcases hf with hf | hf
    · cases hf
    · exact se_bfun cr_gcd cs_gcd hg hf.2 ha (by decide) h1 h2
  | sum => exact se_blt (cr_sum hc) cs_sum hg (hb "sum" (by decide)) boot_sum ha (by decide) (by decide) h1 h2
end
end Sx
set_option Elab.async false
set_option linter.all false
set_option maxHeartbeats 4000000
/-! Sx, part M: the checked reading is sound: expressions, by induction. -/
namespace Sx
open PySem PySem.Spec PyProof.Rows L2
theorem _root_.L2.PE.to {X : Cx} {Xq : XW} {e : Expr} {f g : Fe} (h : SE X Xq e f) (q : f = g) : SE X Xq e g := q ▸ h
theorem _root_.L2.PT.to {X : Cx} {Xq : XW} {e : Expr} {f g : Ev → Store → Out Bool} (h : ST X Xq e f) (q : f = g) : ST X Xq e g := q ▸ h
theorem _root_.L2.PI.to {X : Cx} {Xq : XW} {t e : Expr} {f g : Ev → Store → Out (List D)} (h : SI X Xq t e f) (q : f = g) : SI X Xq t e g := q ▸ h
theorem _root_.L2.PO.to {X : Cx} {Xq : XW} {e : Option Expr} {f g : Ev → Store → Out (Option Int)} (h : SO X Xq e f) (q : f = g) : SO X Xq e g := q ▸ h
theorem _root_.L2.PA.to {X : Cx} {Xq : XW} {e : List Expr} {f g : Ev → Store → Out (List R)} (h : SA X Xq e f) (q : f = g) : SA X Xq e g := q ▸ h
theorem lift_bind {t u : Type} {o : Option t} {S : Store} {f : t → Store → Option u} : ((lift o S).bind fun x S1 => lift (f x S1) S1) = lift (o.bind fun x => f x S) S := by cases o <;> rfl
theorem mL_star : ∀ {cs : List CE} {sc : Sc} {es : List Expr}, mL cs sc es = true → es.all nstar = true
  | [], sc, [], _ => rfl
  | [], sc, _ :: _, h => by simp [mL] at h
  | c :: cs, sc, [], h => by simp [mL] at h
  | c :: cs, sc, e :: es, h => by
    simp only [mL, Bool.and_eq_true] at h
    rw [List.all_cons, h.1.1, mL_star h.2]; rfl
theorem mL_len : ∀ {cs : List CE} {sc : Sc} {es : List Expr}, mL cs sc es = true → cs.length = es.length
  | [], sc, [], _ => rfl
  | [], sc, _ :: _, h => by simp [mL] at h
  | c :: cs, sc, [], h => by simp [mL] at h
  | c :: cs, sc, e :: es, h => by
    simp only [mL, Bool.and_eq_true] at h
    rw [List.length_cons, List.length_cons, mL_len h.2]

theorem mK_len : ∀ {cs : List CE} {sc : Sc} {es : List Keyword}, mK cs sc es = true → cs.length = es.length
  | [], sc, [], _ => rfl
  | [], sc, _ :: _, h => by simp [mK] at h
  | c :: cs, sc, [], h => by simp [mK] at h
  | c :: cs, sc, ⟨_, _, _⟩ :: es, h => by
    simp only [mK, Bool.and_eq_true] at h
    rw [List.length_cons, List.length_cons, mK_len h.2]
section
variable {X : Cx} {Xq : XW} {a b : Expr} {rest : List Expr} {pos : Pos} {fa fb : Fe} {ft fu : Ev → Store → Out Bool}
theorem tru_at {K : PySem.W.Frag} {H : Hp} {S : Store} {F : Nat → Addr} {v : V} {x : R} {kk : Bool} (w : Wok K H S F) (hv : RepR K H S F v x) (e : tru x S = some kk) : TruV K v H kk := by
  unfold tru at e
  rw [Option.bind_eq_some_iff] at e
  obtain ⟨d, e1, e2⟩ := e
  exact tru_of (dt_of w hv e1) e2
theorem se_and (ha : SE X Xq a fa) (hb : SE X Xq (.BoolOp .And (b :: rest) pos) fb) : SE X Xq (.BoolOp .And (a :: b :: rest) pos) (fun e S => (fa e S).bind fun x S1 => (lift (tru x S1) S1).bind fun kk S2 => if kk then fb e S2 else .ok x S2) :=
  (pe_andT ha hb).weak fun st H Q h => EX.e (g := fun e x S1 => (lift (tru x S1) S1).bind fun kk S2 => if kk then fb e S2 else .ok x S2) h fun e x S1 F1 H1 v w re hv p => by
    obtain ⟨kk, ek, q⟩ := Post.lift w p.bind
    refine ⟨kk, tru_at w hv ek, ?_⟩
    cases kk with
    | true => exact ⟨e, S1, F1, w, re, q⟩
    | false => exact Post.ok w q v hv
theorem se_or (ha : SE X Xq a fa) (hb : SE X Xq (.BoolOp .Or (b :: rest) pos) fb) : SE X Xq (.BoolOp .Or (a :: b :: rest) pos) (fun e S => (fa e S).bind fun x S1 => (lift (tru x S1) S1).bind fun kk S2 => if kk then .ok x S2 else fb e S2) :=
  (pe_orT ha hb).weak fun st H Q h => EX.e (g := fun e x S1 => (lift (tru x S1) S1).bind fun kk S2 => if kk then .ok x S2 else fb e S2) h fun e x S1 F1 H1 v w re hv p => by
    obtain ⟨kk, ek, q⟩ := Post.lift w p.bind
    refine ⟨kk, tru_at w hv ek, ?_⟩
    cases kk with
    | false => exact ⟨e, S1, F1, w, re, q⟩
    | true => exact Post.ok w q v hv
theorem sw_and (ha : ST X Xq a ft) (hb : SW X Xq (.BoolOp .And (b :: rest) pos) fu) : SW X Xq (.BoolOp .And (a :: b :: rest) pos) (fun e S => (ft e S).bind fun kk S1 => if kk then fu e S1 else .ok false S1) :=
  (pw_and ha hb).weak fun st H Q h => EX.t (g := fun e kk S1 => if kk then fu e S1 else .ok false S1) h fun e kk S1 F1 H1 w re p => by
    cases kk with
    | true => exact ⟨e, S1, F1, w, re, p⟩
    | false => exact Post.ok w p
theorem sw_or (ha : ST X Xq a ft) (hb : SW X Xq (.BoolOp .Or (b :: rest) pos) fu) : SW X Xq (.BoolOp .Or (a :: b :: rest) pos) (fun e S => (ft e S).bind fun kk S1 => if kk then .ok true S1 else fu e S1) :=
  (pw_or ha hb).weak fun st H Q h => EX.t (g := fun e kk S1 => if kk then .ok true S1 else fu e S1) h fun e kk S1 F1 H1 w re p => by
    cases kk with
    | false => exact ⟨e, S1, F1, w, re, p⟩
    | true => exact Post.ok w p
theorem pt_if {c : Expr} {tA tB1 tB2 : TT} (hc : PT X c tA) (ha : PT X a tB1) (hb : PT X b tB2) : PT X (.IfExp c a b pos) (fun σ H Q => tA σ H fun d H1 => if d = true then tB1 σ H1 Q else tB2 σ H1 Q) := by
  refine ⟨fun pins s σ H Q I h => ?_⟩
  refine isTrue_IfExp (thn (hc.run pins s σ H _ I h) fun d s1 ⟨H1, I1, q1⟩ => ?_)
  cases d with
  | true => exact ha.run pins s1 σ H1 Q I1 q1
  | false => exact hb.run pins s1 σ H1 Q I1 q1
theorem st_if {c : Expr} {fc fa' fb' : Ev → Store → Out Bool} (hc : ST X Xq c fc) (ha : ST X Xq a fa') (hb : ST X Xq b fb') : ST X Xq (.IfExp c a b pos) (fun e S => (fc e S).bind fun kk S1 => if kk then fa' e S1 else fb' e S1) :=
  (pt_if hc ha hb).weak fun st H Q h => EX.t (g := fun e kk S1 => if kk then fa' e S1 else fb' e S1) h fun e kk S1 F1 H1 w re p => by
    cases kk with
    | true => exact ⟨e, S1, F1, w, re, p⟩
    | false => exact ⟨e, S1, F1, w, re, p⟩
theorem st_w (h : SW X Xq a ft) : ST X Xq a ft := ⟨fun pins s st H Q I q => h.run _ pins s st H Q I q⟩
end
section
variable {fns cs : List String} {kb : List KE} {C : Fns} {G : String → Option D} {xq : XK → XW} {CX : CXT} {k : Nat}
theorem ok_v {i : Nat} {x : Str} {pos : Pos} {X : Cx} {Xq : XW} {sc : Sc} (o : ScOk fns cs kb sc X) (h : (decide (sc.N[i]? = some x) && isVis sc.names x && noDb x) = true) : SE X Xq (.Name x pos) (fun e S => getV e i S) := by
  simp only [Bool.and_eq_true, decide_eq_true_eq] at h
  exact se_v (by rw [← o.N]; exact h.1.1) (vis_of (by rw [o.names]; exact h.1.2)) (db_of h.2).1 (db_of h.2).2
theorem ok_g {x : String} {y : Str} {pos : Pos} {X : Cx} {Xq : XW} {sc : Sc} (g : Gx fns cs kb C G xq CX k X Xq) (o : ScOk fns cs kb sc X) (h : (decide (Str.ofString x = y) && isGl sc.names y && noDb y && sc.cs.contains x) = true) :
    SE X Xq (.Name y pos) (fun _ S => match G x with | some y => .ok (.d y) S | none => .bad) := by
  simp only [Bool.and_eq_true, decide_eq_true_eq] at h
  obtain ⟨⟨⟨h1, h2⟩, h3⟩, h4⟩ := h
  subst h1
  rw [o.cs] at h4
  obtain ⟨z, v, u, e1, e2, e3, e4⟩ := g.glob x h4
  rw [e1]
  exact se_g (gl_of (by rw [o.names]; exact h2)) e2 e3 e4 (db_of h3).1
theorem ok_call {f : String} {x : Str} {p pos : Pos} {X : Cx} {Xq : XW} {sc : Sc} {as : List CE} {es : List Expr} (g : Gx fns cs kb C G xq CX k X Xq) (o : ScOk fns cs kb sc X) (h : (decide (Str.ofString f = x) && isGl sc.names x && noDb x && sc.fns.contains f && mL as sc es) = true)
    (ha : SA X Xq es (dL C G as)) : SE X Xq (.Call (.Name x p) es [] pos) (fun e S => (dL C G as e S).bind fun rs S1 => C f rs S1) := by
  simp only [Bool.and_eq_true, decide_eq_true_eq] at h
  obtain ⟨⟨⟨⟨h1, h2⟩, h3⟩, h4⟩, h5⟩ := h
  subst h1
  rw [o.fns] at h4
  have hg := gl_of (X := X) (by rw [o.names]; exact h2)
  cases es with
  | nil =>
    have : as = [] := by
      have := mL_len h5
      exact List.eq_nil_of_length_eq_zero this
    subst this
    exact (se_call0 g h4 hg (db_of h3).1).to (by funext e S; rfl)
  | cons e es => exact se_call g h4 hg (db_of h3).1 ha (mL_star h5)
theorem ok_bi {f : Bi} {x : Str} {p pos : Pos} {X : Cx} {Xq : XW} {sc : Sc} {as : List CE} {a : Expr} {es : List Expr} (g : Gx fns cs kb C G xq CX k X Xq) (o : ScOk fns cs kb sc X) (h : (decide (Str.ofString (biS f) = x) && isGl sc.names x && (biOk f || (decide (f = .gcd) && sc.gc)) && mL as sc (a :: es)) = true)
    (ha : SA X Xq (a :: es) (dL C G as)) : SE X Xq (.Call (.Name x p) (a :: es) [] pos) (fun e S => (dL C G as e S).bind fun rs S1 => lift ((asDs S1 rs).bind fun ds => (biD f ds).map R.d) S1) := by
  simp only [Bool.and_eq_true, decide_eq_true_eq, Bool.or_eq_true] at h
  obtain ⟨⟨⟨h1, h2⟩, h3⟩, h5⟩ := h
  subst h1
  exact se_bi g (h3.imp id fun z => ⟨z.1, o.gc z.2⟩) (gl_of (by rw [o.names]; exact h2)) ha (mL_star h5)
theorem ok_isi {t : Ty} {x y : Str} {p q pos : Pos} {X : Cx} {Xq : XW} {sc : Sc} {a : Expr} {fa : Fe} {b : Bool} (g : Gx fns cs kb C G xq CX k X Xq) (o : ScOk fns cs kb sc X) (h : (decide (("isinstance" : Str) = x) && decide (Str.ofString (tyS t) = y) && isGl sc.names x && isGl sc.names y && nstar a && b) = true)
    (ha : SE X Xq a fa) : SE X Xq (.Call (.Name x p) [a, .Name y q] [] pos) (fun e S => (fa e S).bind fun x S1 => lift ((asD x S1).map fun p => .d (.bool (tyOf p t))) S1) := by
  simp only [Bool.and_eq_true, decide_eq_true_eq] at h
  obtain ⟨⟨⟨⟨⟨h1, h2⟩, h3⟩, h4⟩, h5⟩, _⟩ := h
  subst h1; subst h2
  exact se_isi ha (gl_of (by rw [o.names]; exact h3)) (g.blt "isinstance" (by decide)) (gl_of (by rw [o.names]; exact h4)) (g.blt (tyS t) (by cases t <;> decide)) fun r => star_of h5
theorem se_newlist {X : Cx} {Xq : XW} {p pos : Pos} {e : Expr} {es : List Expr} {fl : Ev → Store → Out (List R)} (g : Gx fns cs kb C G xq CX k X Xq) (hg : Gl X "list") (ha : SA X Xq (e :: es) fl) (hs : (e :: es).all nstar = true) :
    SE X Xq (.Call (.Name "list" p) (e :: es) [] pos) (fun e S => ((fl e S).bind fun rs S1 => lift ((asDs S1 rs).bind fun ds => (bList ds).map R.d) S1).bind newD) := by
  rw [List.all_cons, Bool.and_eq_true] at hs
  exact (pe_callTy call_list_of hg (g.blt "list" (by decide)) boot_list ha (by decide) (by decide) (star_of hs.1) (star_any hs.2)).weak fun st H Q h => ra_newlist h
theorem blk_names {X : Cx} {names : List (Str × NameKind)} {scope : Scope} {cl : List (Str × Addr)} {A : Addr} (hk : X.env.scope.kind = .function) (hn : X.env.scope.names = names) : (compEnvC scope cl A X.env).scope.names = blkNames names scope := by
  show (relabel scope X.env).names = _
  unfold relabel blkNames
  subst hn
  simp only [hk]
  congr 1
  funext ⟨n, kk⟩
  show (if (kk == .free && ScopeKind.function == .function && X.env.scope.names.lookup n == some .cell) = true then _ else _) = _
  simp
theorem loc_ok {X : Cx} {sc : Sc} {i : Nat} {x : Str} {vs : List Nat} {pos : Pos} {Xq : XW} (g : Gx fns cs kb C G xq CX k X Xq) (o : ScOk fns cs kb sc X) (h : (decide (sc.N[i]? = some x) && isLoc sc.names x && (sc.all || isLo sc.names x || sc.cl.contains x) && vs.contains i) = true) :
    SG X Xq vs (.Name x pos) (fun r e S => .ok (e.set i (some r)) S) := by
  simp only [Bool.and_eq_true, decide_eq_true_eq, Bool.or_eq_true] at h
  obtain ⟨⟨⟨h1, h2⟩, h3⟩, h4⟩ := h
  refine sg_v g.nd (by rw [← o.N]; exact h1) (loc_of (by rw [o.names]; exact h2)) ?_ (by simpa using h4)
  rcases h3 with (z | z) | z
  · exact .inl (o.all z x)
  · exact .inr (by rw [o.names]; exact lo_of z)
  · exact .inl (o.cl x (by simpa using z))
theorem assignEach_cons {e : Expr} {es : List Expr} {env : PySem.Env} (h : nstar e = true) : (assignEach (e :: es) env) = (false, assign e env) :: assignEach es env := by
  cases e <;> first | rfl | cases h
theorem setItem_of {a b : Expr} {pos : Pos} {env : PySem.Env} (h : nslice b = true) : ∀ v, assign (.Subscript a b pos) env v = (do
      let ov ← holding [v] (eval a env)
      let iv ← holding [v, ov] (eval b env)
      standAt pos
      holding [v, ov, iv] (setItem ov iv v)
      release [v, ov, iv] []) := by
  intro v
  cases b <;> first | rfl | cases h
theorem len1_of {t : Type} {l : List t} (h : l.length = 1) : ∃ a, l = [a] := by
  match l, h with
  | [a], _ => exact ⟨a, rfl⟩
theorem len2_of {t : Type} {l : List t} (h : l.length = 2) : ∃ a b, l = [a, b] := by
  match l, h with
  | [a, b], _ => exact ⟨a, b, rfl⟩
theorem len3_of {t : Type} {l : List t} (h : l.length = 3) : ∃ a b c, l = [a, b, c] := by
  match l, h with
  | [a, b, c], _ => exact ⟨a, b, c, rfl⟩
mutual
theorem mE_ok : ∀ (c : CE) (sc : Sc) (e : Expr), mE c sc e = true → ∀ X Xq, Gx fns cs kb C G xq CX k X Xq → ScOk fns cs kb sc X → SE X Xq e (dE C G c)
  | .i n, sc, e, h, X, Xq, g, o => by
    unfold mE at h; split at h
    · rw [decide_eq_true_eq] at h; subst h; exact se_i
    · cases h
  | .s x, sc, e, h, X, Xq, g, o => by
    unfold mE at h; split at h
    · rw [decide_eq_true_eq] at h; subst h; exact se_s
    · cases h
  | .b x, sc, e, h, X, Xq, g, o => by
    unfold mE at h; split at h
    · rw [decide_eq_true_eq] at h; subst h; exact se_b
    · cases h
  | .non, sc, e, h, X, Xq, g, o => by
    unfold mE at h; split at h
    · exact se_non
    · cases h
  | .v i, sc, e, h, X, Xq, g, o => by
    unfold mE at h; split at h
    · exact ok_v o h
    · cases h
  | .g x, sc, e, h, X, Xq, g, o => by
    unfold mE at h; split at h
    · exact ok_g g o h
    · cases h
  | .tup es, sc, e, h, X, Xq, g, o => by
    unfold mE at h; split at h
    · exact se_tup (mL_ok es sc _ h X Xq g o)
    · cases h
  | .lst es, sc, e, h, X, Xq, g, o => by
    unfold mE at h; split at h
    · exact se_lst (mL_ok es sc _ h X Xq g o)
    · cases h
  | .edict, sc, e, h, X, Xq, g, o => by
    unfold mE at h; split at h
    · exact se_edict
    · cases h
  | .new c, sc, e, h, X, Xq, g, o => by
    unfold mE at h
    exact mN_ok c sc e h X Xq g o
  | .bop op a b, sc, e, h, X, Xq, g, o => by
    unfold mE at h; split at h
    · simp only [Bool.and_eq_true, decide_eq_true_eq] at h
      obtain ⟨⟨h1, h2⟩, h3⟩ := h
      subst h1
      obtain ⟨r, hr, hs⟩ := bop_ok (X := X) op
      exact se_bop hr hs (mE_ok a sc _ h2 X Xq g o) (mE_ok b sc _ h3 X Xq g o)
    · cases h
  | .neg a, sc, e, h, X, Xq, g, o => by
    unfold mE at h; split at h
    · exact se_neg (mE_ok a sc _ h X Xq g o)
    · cases h
  | .not a, sc, e, h, X, Xq, g, o => by
    unfold mE at h; split at h
    · exact se_not (mE_ok a sc _ h X Xq g o)
    · cases h
  | .and cs', sc, e, h, X, Xq, g, o => by
    unfold mE at h; split at h
    · exact (mB_ok cs' sc _ h X Xq g o _).1
    · cases h
  | .or cs', sc, e, h, X, Xq, g, o => by
    unfold mE at h; split at h
    · exact (mB_ok cs' sc _ h X Xq g o _).2
    · cases h
  | .cmp op a b, sc, e, h, X, Xq, g, o => by
    unfold mE at h; split at h
    · simp only [Bool.and_eq_true, decide_eq_true_eq, Bool.not_eq_true'] at h
      obtain ⟨⟨⟨h1, h2⟩, h3⟩, h4⟩ := h
      subst h1
      obtain ⟨r, hr, hs⟩ := cop_ok (X := X) (by have := g.units; omega) g.lit op
      exact se_cmp hr hs (mE_ok a sc _ h3 X Xq g o) (mE_ok b sc _ h4 X Xq g o) h2
    · cases h
  | .chain op op2 a b c, sc, e, h, X, Xq, g, o => by
    unfold mE at h; split at h
    · simp only [Bool.and_eq_true, decide_eq_true_eq, Bool.not_eq_true'] at h
      obtain ⟨⟨⟨⟨⟨h1, h2⟩, h3⟩, h4⟩, h5⟩, h6⟩ := h
      subst h1; subst h2
      obtain ⟨r, hr, hs⟩ := cop_ok (X := X) (by have := g.units; omega) g.lit op
      obtain ⟨r', hr', hs'⟩ := cop_ok (X := X) (by have := g.units; omega) g.lit op2
      exact se_chain hr hs hr' hs' (mE_ok a sc _ h4 X Xq g o) (mE_ok b sc _ h5 X Xq g o) (mE_ok c sc _ h6 X Xq g o) h3
    · cases h
  | .ite c a b, sc, e, h, X, Xq, g, o => by
    unfold mE at h; split at h
    · simp only [Bool.and_eq_true] at h
      exact se_ite (mT_ok c sc _ h.1.1 X Xq g o) (mE_ok a sc _ h.1.2 X Xq g o) (mE_ok b sc _ h.2 X Xq g o)
    · cases h
  | .call f as, sc, e, h, X, Xq, g, o => by
    unfold mE at h; split at h
    · exact ok_call g o h (mL_ok as sc _ (by simp only [Bool.and_eq_true] at h; exact h.2) X Xq g o)
    · cases h
  | .callk q as ks, sc, e, h, X, Xq, g, o => by
    unfold mE at h; split at h
    · simp only [Bool.and_eq_true, decide_eq_true_eq] at h
      obtain ⟨⟨⟨⟨⟨⟨⟨h1, h2⟩, h3⟩, h4⟩, h5⟩, h6⟩, h7⟩, h8⟩ := h
      subst h1
      rw [o.kb] at h4
      exact se_callk g h4 (gl_of (by rw [o.names]; exact h2)) (db_of h3).1 h5 (mL_len h7) (mK_len h8) h6 (mL_star h7) (mL_ok as sc _ h7 X Xq g o) (mK_ok ks sc _ h8 X Xq g o)
    · cases h
  | .bi f as, sc, e, h, X, Xq, g, o => by
    unfold mE at h; split at h
    · exact ok_bi g o h (mL_ok as sc _ (by simp only [Bool.and_eq_true] at h; exact h.2) X Xq g o)
    · cases h
  | .isi a t, sc, e, h, X, Xq, g, o => by
    unfold mE at h; split at h
    · exact ok_isi g o h (mE_ok a sc _ (by simp only [Bool.and_eq_true] at h; exact h.2) X Xq g o)
    · cases h
  | .ix a b, sc, e, h, X, Xq, g, o => by
    unfold mE at h; split at h
    · simp only [Bool.and_eq_true] at h
      exact se_ix g.lit (mE_ok a sc _ h.1.2 X Xq g o) (mE_ok b sc _ h.2 X Xq g o) (slice_of h.1.1)
    · cases h
  | .sl a lo hi, sc, e, h, X, Xq, g, o => by
    unfold mE at h; split at h
    · simp only [Bool.and_eq_true] at h
      exact se_sl (mE_ok a sc _ h.1.1 X Xq g o) (mO_ok lo sc _ h.1.2 X Xq g o) (mO_ok hi sc _ h.2 X Xq g o)
    · cases h
  | .nob, sc, e, h, X, Xq, g, o => by unfold mE at h; cases h
  | .rev a, sc, e, h, X, Xq, g, o => by
    unfold mE at h; split at h
    · exact se_rev (mE_ok a sc _ h X Xq g o)
    · cases h
  | .lc elt t it ifs own, sc, e, h, X, Xq, g, o => by
    unfold mE at h; split at h
    · rename_i elt' t' it' ifs' scope pos
      simp only [Bool.and_eq_true, decide_eq_true_eq] at h
      obtain ⟨⟨⟨⟨⟨⟨h1, h2⟩, _⟩, h3⟩, h4⟩, h5⟩, h6⟩ := h
      have b := blkOk_by h2
      have hb : BlkOk X.N X.env.scope scope (ownOf sc.N own) := ⟨b.kind, b.uniq, by rw [← o.N]; exact b.ix, fun y hy e => by rw [o.names]; exact b.free y hy e, by rw [← o.N]; exact b.own⟩
      have eo : (ownOf sc.N own).map (·.2) = own := by unfold ownOf; rw [List.map_map]; exact List.map_id' own
      have gb : ∀ (s : Shared) (H : Hp) (A : Addr) (cl : List (Str × Addr)) (fp : List Addr), Gx fns cs kb C G xq CX k (X.blk s H scope (compEnvC scope cl A X.env) fp) XF := fun s H A cl fp => g.blk b.kind
      have ob : ∀ (s : Shared) (H : Hp) (A : Addr) (cl : List (Str × Addr)) (fp : List Addr), ScOk fns cs kb { sc with names := blkNames sc.names scope, all := false, cl := cellsOf scope } (X.blk s H scope (compEnvC scope cl A X.env) fp) := fun s H A cl fp =>
        ⟨o.N, blk_names g.kind o.names, fun z => absurd z Bool.false_ne_true, o.fns, o.cs, o.kb, o.gc, fun x hx => cells_of hx⟩
      refine (se_lc (own := ownOf sc.N own) (fi := dI C G it) (fg := dA C G t) (ft := dIfs C G ifs) (fe := dE C G elt) g.calm g.nd (mI_ok it sc t' it' h3 X Xq g o) hb (fun s H A cl fp => ?_) (fun s H A cl fp => ?_) (fun s H A cl fp => ?_) (set_of h1)).to ?_
      · rw [eo]; exact mG_ok t _ own _ h4 _ _ (gb s H A cl fp) (ob s H A cl fp)
      · exact mIf_ok ifs _ _ h5 _ _ (gb s H A cl fp) (ob s H A cl fp)
      · exact mE_ok elt _ _ h6 _ _ (gb s H A cl fp) (ob s H A cl fp)
      · rw [eo]; rfl
    · cases h
  | .rng as, sc, e, h, X, Xq, g, o => by
    unfold mE at h; split at h
    · simp only [Bool.and_eq_true, decide_eq_true_eq, Bool.or_eq_true] at h
      obtain ⟨⟨⟨⟨⟨k1, k2⟩, h1⟩, h2⟩, h3⟩, h4⟩ := h
      subst h1; subst k1
      have hl := gl_of (X := X) (by rw [o.names]; exact k2)
      have hml := g.blt "list" (by decide)
      have hg := gl_of (X := X) (by rw [o.names]; exact h2)
      have hm := g.blt "range" (by decide)
      have hn := mL_len h3
      rcases h4 with h4 | h4
      · obtain ⟨e1, rfl⟩ := len1_of h4
        obtain ⟨a, rfl⟩ := len1_of (hn.trans h4)
        simp only [mL, Bool.and_eq_true] at h3
        refine (se_lrng1 g.calm hl hml hg hm (mE_ok a sc _ h3.1.2 X Xq g o) (star_of h3.1.1)).to ?_
        funext e S
        show _ = (dL C G [a] e S).bind fun rs S1 => lift ((asDs S1 rs).bind fun ds => (rngL ds).map R.d) S1
        show _ = ((dE C G a e S).bind fun x S1 => (Out.ok [] S1).bind fun xs S2 => .ok (x :: xs) S2).bind _
        rw [bind_assoc]; rfl
      · obtain ⟨e1, e2, rfl⟩ := len2_of h4
        obtain ⟨a, b, rfl⟩ := len2_of (hn.trans h4)
        simp only [mL, Bool.and_eq_true] at h3
        refine (se_lrng2 g.calm hl hml hg hm (mE_ok a sc _ h3.1.2 X Xq g o) (mE_ok b sc _ h3.2.1.2 X Xq g o) (by rw [star_of h3.1.1, star_of h3.2.1.1]; rfl) (star_of h3.2.1.1)).to ?_
        funext e S
        show _ = (dL C G [a, b] e S).bind fun rs S1 => lift ((asDs S1 rs).bind fun ds => (rngL ds).map R.d) S1
        show _ = ((dE C G a e S).bind fun x S1 => ((dE C G b e S1).bind fun x S1 => (Out.ok [] S1).bind fun xs S2 => .ok (x :: xs) S2).bind fun xs S2 => .ok (x :: xs) S2).bind _
        simp only [bind_assoc, Out.bind_ok]
    · cases h
  | .zip _, sc, e, h, X, Xq, g, o => by unfold mE at h; cases h
  | .enum _, sc, e, h, X, Xq, g, o => by unfold mE at h; cases h
  | .ss a, sc, e, h, X, Xq, g, o => by
    unfold mE at h; split at h
    · simp only [Bool.and_eq_true, decide_eq_true_eq] at h
      obtain ⟨⟨⟨⟨⟨k1, k2⟩, h1⟩, h2⟩, h3⟩, h4⟩ := h
      subst h1; subst k1
      exact se_ss g.calm g.units (gl_of (X := X) (by rw [o.names]; exact k2)) (g.blt "sorted" (by decide)) (gl_of (X := X) (by rw [o.names]; exact h2)) (g.blt "set" (by decide)) (mE_ok a sc _ h4 X Xq g o) (star_of h3)
    · cases h
  | .app a b, sc, e, h, X, Xq, g, o => by
    unfold mE at h; split at h
    · simp only [Bool.and_eq_true, decide_eq_true_eq] at h
      obtain ⟨⟨⟨⟨⟨h1, h2⟩, h3⟩, h4⟩, h5⟩, h6⟩ := h
      subst h1
      exact se_app (mE_ok a sc _ h5 X Xq g o) (mE_ok b sc _ h6 X Xq g o) (base_of h3) (by rw [h2]; exact beq_self_eq_true _) (star_of h4)
    · cases h
  | .popi a b, sc, e, h, X, Xq, g, o => by
    unfold mE at h; split at h
    · simp only [Bool.and_eq_true, decide_eq_true_eq] at h
      obtain ⟨⟨⟨⟨⟨h1, h2⟩, h3⟩, h4⟩, h5⟩, h6⟩ := h
      subst h1
      exact se_popi (mE_ok a sc _ h5 X Xq g o) (mE_ok b sc _ h6 X Xq g o) (base_of h3) (by rw [h2]; exact beq_self_eq_true _) (star_of h4)
    · cases h
  | .pop a, sc, e, h, X, Xq, g, o => by
    unfold mE at h; split at h
    · simp only [Bool.and_eq_true, decide_eq_true_eq] at h
      obtain ⟨⟨⟨h1, h2⟩, h3⟩, h5⟩ := h
      subst h1
      exact se_pop (mE_ok a sc _ h5 X Xq g o) (base_of h3) (by rw [h2]; exact beq_self_eq_true _)
    · cases h
theorem mN_ok : ∀ (c : CE) (sc : Sc) (e : Expr), mN c sc e = true → ∀ X Xq, Gx fns cs kb C G xq CX k X Xq → ScOk fns cs kb sc X → SE X Xq e (fun ev S => (dE C G c ev S).bind newD) := by
  intro c
  cases c <;> intro sc e h X Xq g o <;> try (unfold mN at h; cases h; done)
  case lst es =>
    unfold mN at h; split at h
    · exact se_newlst (mL_ok es sc _ h X Xq g o)
    · cases h
  case bi f as =>
    unfold mN at h; split at h
    · simp only [Bool.and_eq_true, decide_eq_true_eq] at h
      obtain ⟨⟨⟨h1, h2⟩, h3⟩, h4⟩ := h
      subst h1; subst h2
      exact se_newlist g (gl_of (by rw [o.names]; exact h3)) (mL_ok as sc _ h4 X Xq g o) (mL_star h4)
    · cases h
  case bop op a b =>
    unfold mN at h; split at h
    · simp only [Bool.and_eq_true, decide_eq_true_eq, Bool.or_eq_true] at h
      obtain ⟨⟨⟨h0, h1⟩, h2⟩, h3⟩ := h
      subst h1
      have ha := mE_ok a sc _ h2 X Xq g o
      have hb := mE_ok b sc _ h3 X Xq g o
      rcases h0 with h0 | h0
      · subst h0; exact se_newmul ha hb
      · subst h0; exact se_newadd ha hb
    · cases h
  case lc elt t it ifs own =>
    unfold mN at h; split at h
    · rename_i elt' t' it' ifs' scope pos
      simp only [Bool.and_eq_true, decide_eq_true_eq] at h
      obtain ⟨⟨⟨⟨⟨h1, h2⟩, h3⟩, h4⟩, h5⟩, h6⟩ := h
      have b := blkOk_by h2
      have hb : BlkOk X.N X.env.scope scope (ownOf sc.N own) := ⟨b.kind, b.uniq, by rw [← o.N]; exact b.ix, fun y hy e => by rw [o.names]; exact b.free y hy e, by rw [← o.N]; exact b.own⟩
      have eo : (ownOf sc.N own).map (·.2) = own := by unfold ownOf; rw [List.map_map]; exact List.map_id' own
      have gb : ∀ (s : Shared) (H : Hp) (A : Addr) (cl : List (Str × Addr)) (fp : List Addr), Gx fns cs kb C G xq CX k (X.blk s H scope (compEnvC scope cl A X.env) fp) XF := fun s H A cl fp => g.blk b.kind
      have ob : ∀ (s : Shared) (H : Hp) (A : Addr) (cl : List (Str × Addr)) (fp : List Addr), ScOk fns cs kb { sc with names := blkNames sc.names scope, all := false, cl := cellsOf scope } (X.blk s H scope (compEnvC scope cl A X.env) fp) := fun s H A cl fp =>
        ⟨o.N, blk_names g.kind o.names, fun z => absurd z Bool.false_ne_true, o.fns, o.cs, o.kb, o.gc, fun x hx => cells_of hx⟩
      refine (se_newlc (own := ownOf sc.N own) (fi := dI C G it) (fg := dA C G t) (ft := dIfs C G ifs) (fe := dE C G elt) g.calm g.nd (mI_ok it sc t' it' h3 X Xq g o) hb (fun s H A cl fp => ?_) (fun s H A cl fp => ?_) (fun s H A cl fp => ?_) (set_of h1)).to ?_
      · rw [eo]; exact mG_ok t _ own _ h4 _ _ (gb s H A cl fp) (ob s H A cl fp)
      · exact mIf_ok ifs _ _ h5 _ _ (gb s H A cl fp) (ob s H A cl fp)
      · exact mE_ok elt _ _ h6 _ _ (gb s H A cl fp) (ob s H A cl fp)
      · rw [eo]; rfl
    · cases h
theorem mO_ok : ∀ (c : CE) (sc : Sc) (e : Option Expr), mO c sc e = true → ∀ X Xq, Gx fns cs kb C G xq CX k X Xq → ScOk fns cs kb sc X → SO X Xq e (dO C G c) := by
  intro c
  cases c <;> intro sc e h X Xq g o <;> try (unfold mO at h; cases h; done)
  case nob =>
    unfold mO at h; split at h
    · exact so_none
    · cases h
  case i n =>
    unfold mO at h; split at h
    · rw [decide_eq_true_eq] at h; subst h; exact (so_some se_i).to (by funext e S; rfl)
    · cases h
  case v i =>
    unfold mO at h; split at h
    · exact (so_some (ok_v o h)).to (by funext e S; rfl)
    · cases h
  case neg a =>
    unfold mO at h; split at h
    · refine (so_some (se_neg (mE_ok a sc _ h X Xq g o))).to ?_
      funext e S
      show _ = (dE C G a e S).bind fun x S1 => lift ((intR x).map fun n => some (-n)) S1
      rw [bind_assoc]
      congr 1
      funext x S1
      cases x with
      | ref j => rfl
      | d y => cases y <;> rfl
    · cases h
  case bop op a b =>
    unfold mO at h; split at h
    · simp only [Bool.and_eq_true, decide_eq_true_eq] at h
      obtain ⟨⟨h1, h2⟩, h3⟩ := h
      subst h1
      obtain ⟨r, hr, hs⟩ := bop_ok (X := X) op
      refine (so_some (se_bop hr hs (mE_ok a sc _ h2 X Xq g o) (mE_ok b sc _ h3 X Xq g o))).to ?_
      funext e S
      show _ = (dE C G a e S).bind fun x S1 => (dE C G b e S1).bind fun y S2 => lift ((asW x S2).bind fun p => (asW y S2).bind fun q => (opB op p q).bind fun z => (intR (.d z)).map some) S2
      simp only [bind_assoc, lift_bind, Option.bind_assoc, Option.bind_map]
      rfl
    · cases h
  case ix a b =>
    unfold mO at h; split at h
    · simp only [Bool.and_eq_true] at h
      refine (so_some (se_ix g.lit (mE_ok a sc _ h.1.2 X Xq g o) (mE_ok b sc _ h.2 X Xq g o) (slice_of h.1.1))).to ?_
      funext e S
      show _ = (dE C G a e S).bind fun x S1 => (dE C G b e S1).bind fun y S2 => lift ((asD x S2).bind fun p => (asD y S2).bind fun q => (ixD p q).bind fun z => (intR (.d z)).map some) S2
      simp only [bind_assoc, lift_bind, Option.bind_assoc, Option.bind_map]
      rfl
    · cases h
  case call f as =>
    unfold mO at h; split at h
    · refine (so_some (ok_call g o h (mL_ok as sc _ (by simp only [Bool.and_eq_true] at h; exact h.2) X Xq g o))).to ?_
      funext e S
      show _ = (dL C G as e S).bind fun rs S1 => (C f rs S1).bind fun x S2 => lift ((intR x).map some) S2
      rw [bind_assoc]
    · cases h
theorem mL_ok : ∀ (c : List CE) (sc : Sc) (e : List Expr), mL c sc e = true → ∀ X Xq, Gx fns cs kb C G xq CX k X Xq → ScOk fns cs kb sc X → SA X Xq e (dL C G c)
  | [], sc, es, h, X, Xq, g, o => by
    unfold mL at h; split at h
    · exact sa_nil
    · cases h
  | c :: cs', sc, es, h, X, Xq, g, o => by
    unfold mL at h; split at h
    · simp only [Bool.and_eq_true] at h
      exact sa_cons (mE_ok c sc _ h.1.2 X Xq g o) (mL_ok cs' sc _ h.2 X Xq g o) (star_of h.1.1)
    · cases h
theorem mK_ok : ∀ (c : List CE) (sc : Sc) (e : List Keyword), mK c sc e = true → ∀ X Xq, Gx fns cs kb C G xq CX k X Xq → ScOk fns cs kb sc X → SK X Xq e (dL C G c)
  | [], sc, es, h, X, Xq, g, o => by
    unfold mK at h; split at h
    · exact sk_nil
    · cases h
  | c :: cs', sc, es, h, X, Xq, g, o => by
    unfold mK at h; split at h
    · simp only [Bool.and_eq_true] at h
      exact sk_cons (mE_ok c sc _ h.1 X Xq g o) (mK_ok cs' sc _ h.2 X Xq g o)
    · cases h
theorem mB_ok : ∀ (c : List CE) (sc : Sc) (e : List Expr), mB c sc e = true → ∀ X Xq, Gx fns cs kb C G xq CX k X Xq → ScOk fns cs kb sc X → ∀ pos, SE X Xq (.BoolOp .And e pos) (dAnd C G c) ∧ SE X Xq (.BoolOp .Or e pos) (dOr C G c)
  | [], sc, e, h, X, Xq, g, o, pos => by unfold mB at h; cases h
  | [c], sc, e, h, X, Xq, g, o, pos => by
    unfold mB at h; split at h
    · have q := mE_ok c sc _ h X Xq g o
      exact ⟨pe_one q, pe_one q⟩
    · cases h
  | c :: c2 :: cs', sc, e, h, X, Xq, g, o, pos => by
    unfold mB at h; split at h
    · simp only [Bool.and_eq_true] at h
      have q := mE_ok c sc _ h.1 X Xq g o
      have q2 := mB_ok (c2 :: cs') sc _ h.2 X Xq g o pos
      exact ⟨se_and q q2.1, se_or q q2.2⟩
    · cases h
theorem mBT_ok : ∀ (c : List CE) (sc : Sc) (e : List Expr), mBT c sc e = true → ∀ X Xq, Gx fns cs kb C G xq CX k X Xq → ScOk fns cs kb sc X → ∀ pos, SW X Xq (.BoolOp .And e pos) (dAndT C G c) ∧ SW X Xq (.BoolOp .Or e pos) (dOrT C G c)
  | [], sc, e, h, X, Xq, g, o, pos => by unfold mBT at h; cases h
  | [c], sc, e, h, X, Xq, g, o, pos => by
    unfold mBT at h; split at h
    · have q := mT_ok c sc _ h X Xq g o
      exact ⟨pw_and1 q, pw_or1 q⟩
    · cases h
  | c :: c2 :: cs', sc, e, h, X, Xq, g, o, pos => by
    unfold mBT at h; split at h
    · simp only [Bool.and_eq_true] at h
      have q := mT_ok c sc _ h.1 X Xq g o
      have q2 := mBT_ok (c2 :: cs') sc _ h.2 X Xq g o pos
      exact ⟨sw_and q q2.1, sw_or q q2.2⟩
    · cases h
theorem mT_ok : ∀ (c : CE) (sc : Sc) (e : Expr), mT c sc e = true → ∀ X Xq, Gx fns cs kb C G xq CX k X Xq → ScOk fns cs kb sc X → ST X Xq e (dT C G c)
  | .and cs', sc, e, h, X, Xq, g, o => by
    unfold mT at h; split at h
    · exact st_w (mBT_ok cs' sc _ h X Xq g o _).1
    · cases h
  | .or cs', sc, e, h, X, Xq, g, o => by
    unfold mT at h; split at h
    · exact st_w (mBT_ok cs' sc _ h X Xq g o _).2
    · cases h
  | .not a, sc, e, h, X, Xq, g, o => by
    unfold mT at h; split at h
    · exact st_not (mT_ok a sc _ h X Xq g o)
    · cases h
  | .ite c a b, sc, e, h, X, Xq, g, o => by
    unfold mT at h; split at h
    · simp only [Bool.and_eq_true] at h
      exact st_if (mT_ok c sc _ h.1.1 X Xq g o) (mT_ok a sc _ h.1.2 X Xq g o) (mT_ok b sc _ h.2 X Xq g o)
    · cases h
  | .i n, sc, e, h, X, Xq, g, o => by
    unfold mT at h; split at h
    · rw [decide_eq_true_eq] at h; subst h; exact (st_val se_i (val_of rfl)).to (by funext e S; rfl)
    · cases h
  | .s x, sc, e, h, X, Xq, g, o => by
    unfold mT at h; split at h
    · rw [decide_eq_true_eq] at h; subst h; exact (st_val se_s (val_of rfl)).to (by funext e S; rfl)
    · cases h
  | .b x, sc, e, h, X, Xq, g, o => by
    unfold mT at h; split at h
    · rw [decide_eq_true_eq] at h; subst h; exact (st_val se_b (val_of rfl)).to (by funext e S; rfl)
    · cases h
  | .non, sc, e, h, X, Xq, g, o => by
    unfold mT at h; split at h
    · exact (st_val se_non (val_of rfl)).to (by funext e S; rfl)
    · cases h
  | .v i, sc, e, h, X, Xq, g, o => by
    unfold mT at h; split at h
    · exact (st_val (ok_v o h) (val_of rfl)).to (by funext e S; rfl)
    · cases h
  | .cmp op a b, sc, e, h, X, Xq, g, o => by
    unfold mT at h; split at h
    · simp only [Bool.and_eq_true, decide_eq_true_eq, Bool.not_eq_true'] at h
      obtain ⟨⟨⟨h1, h2⟩, h3⟩, h4⟩ := h
      subst h1
      obtain ⟨r, hr, hs⟩ := cop_ok (X := X) (by have := g.units; omega) g.lit op
      exact st_cmp hr hs (mE_ok a sc _ h3 X Xq g o) (mE_ok b sc _ h4 X Xq g o) h2
    · cases h
  | .chain op op2 a b c, sc, e, h, X, Xq, g, o => by
    unfold mT at h; split at h
    · simp only [Bool.and_eq_true, decide_eq_true_eq, Bool.not_eq_true'] at h
      obtain ⟨⟨⟨⟨⟨h1, h2⟩, h3⟩, h4⟩, h5⟩, h6⟩ := h
      subst h1; subst h2
      obtain ⟨r, hr, hs⟩ := cop_ok (X := X) (by have := g.units; omega) g.lit op
      obtain ⟨r', hr', hs'⟩ := cop_ok (X := X) (by have := g.units; omega) g.lit op2
      exact st_chain hr hs hr' hs' (mE_ok a sc _ h4 X Xq g o) (mE_ok b sc _ h5 X Xq g o) (mE_ok c sc _ h6 X Xq g o) h3
    · cases h
  | .call f as, sc, e, h, X, Xq, g, o => by
    unfold mT at h; split at h
    · refine (st_val (ok_call g o h (mL_ok as sc _ (by simp only [Bool.and_eq_true] at h; exact h.2) X Xq g o)) (val_of rfl)).to ?_
      funext e S
      show _ = (dL C G as e S).bind fun rs S1 => (C f rs S1).bind fun x S2 => lift (tru x S2) S2
      rw [bind_assoc]
    · cases h
  | .bi f as, sc, e, h, X, Xq, g, o => by
    unfold mT at h; split at h
    · refine (st_val (ok_bi g o h (mL_ok as sc _ (by simp only [Bool.and_eq_true] at h; exact h.2) X Xq g o)) (val_of rfl)).to ?_
      funext e S
      show _ = (dL C G as e S).bind fun rs S1 => lift ((asDs S1 rs).bind fun ds => (biD f ds).bind truD) S1
      simp only [bind_assoc, lift_bind, Option.bind_assoc, Option.bind_map]
      rfl
    · cases h
  | .isi a t, sc, e, h, X, Xq, g, o => by
    unfold mT at h; split at h
    · refine (st_val (ok_isi g o h (mE_ok a sc _ (by simp only [Bool.and_eq_true] at h; exact h.2) X Xq g o)) (val_of rfl)).to ?_
      funext e S
      show _ = (dE C G a e S).bind fun x S1 => lift ((asD x S1).map fun p => tyOf p t) S1
      simp only [bind_assoc, lift_bind, Option.bind_map]
      congr 1
      funext x S1
      cases asD x S1 <;> rfl
    · cases h
  | .ix a b, sc, e, h, X, Xq, g, o => by
    unfold mT at h; split at h
    · simp only [Bool.and_eq_true] at h
      refine (st_val (se_ix g.lit (mE_ok a sc _ h.1.2 X Xq g o) (mE_ok b sc _ h.2 X Xq g o) (slice_of h.1.1)) (val_of rfl)).to ?_
      funext e S
      show _ = (dE C G a e S).bind fun x S1 => (dE C G b e S1).bind fun y S2 => lift ((asD x S2).bind fun p => (asD y S2).bind fun q => (ixD p q).bind truD) S2
      simp only [bind_assoc, lift_bind, Option.bind_assoc, Option.bind_map]
      rfl
    · cases h
  | .g _, sc, e, h, X, Xq, g, o => by simp [mT] at h
  | .tup _, sc, e, h, X, Xq, g, o => by simp [mT] at h
  | .lst _, sc, e, h, X, Xq, g, o => by simp [mT] at h
  | .edict, sc, e, h, X, Xq, g, o => by simp [mT] at h
  | .new _, sc, e, h, X, Xq, g, o => by simp [mT] at h
  | .bop _ _ _, sc, e, h, X, Xq, g, o => by simp [mT] at h
  | .neg _, sc, e, h, X, Xq, g, o => by simp [mT] at h
  | .callk q as ks, sc, e, h, X, Xq, g, o => by
    unfold mT at h; split at h
    · simp only [Bool.and_eq_true, decide_eq_true_eq] at h
      obtain ⟨⟨⟨⟨⟨⟨⟨h1, h2⟩, h3⟩, h4⟩, h5⟩, h6⟩, h7⟩, h8⟩ := h
      subst h1
      rw [o.kb] at h4
      refine (st_val (se_callk g h4 (gl_of (by rw [o.names]; exact h2)) (db_of h3).1 h5 (mL_len h7) (mK_len h8) h6 (mL_star h7) (mL_ok as sc _ h7 X Xq g o) (mK_ok ks sc _ h8 X Xq g o)) (val_of rfl)).to ?_
      funext e S
      show _ = (dL C G as e S).bind fun rs S1 => (dL C G ks e S1).bind fun qs S2 => (C q.f (q.pick rs qs) S2).bind fun x S3 => lift (tru x S3) S3
      simp only [bind_assoc]
    · cases h
  | .sl _ _ _, sc, e, h, X, Xq, g, o => by simp [mT] at h
  | .nob, sc, e, h, X, Xq, g, o => by simp [mT] at h
  | .rev _, sc, e, h, X, Xq, g, o => by simp [mT] at h
  | .lc _ _ _ _ _, sc, e, h, X, Xq, g, o => by simp [mT] at h
  | .rng _, sc, e, h, X, Xq, g, o => by simp [mT] at h
  | .zip _, sc, e, h, X, Xq, g, o => by simp [mT] at h
  | .enum _, sc, e, h, X, Xq, g, o => by simp [mT] at h
  | .ss _, sc, e, h, X, Xq, g, o => by simp [mT] at h
  | .app _ _, sc, e, h, X, Xq, g, o => by simp [mT] at h
  | .pop _, sc, e, h, X, Xq, g, o => by simp [mT] at h
  | .popi _ _, sc, e, h, X, Xq, g, o => by simp [mT] at h
theorem mIf_ok : ∀ (c : List CE) (sc : Sc) (e : List Expr), mIf c sc e = true → ∀ X Xq, Gx fns cs kb C G xq CX k X Xq → ScOk fns cs kb sc X → PTs X e (RT X.K Xq (dIfs C G c))
  | [], sc, e, h, X, Xq, g, o => by
    unfold mIf at h; split at h
    · exact ⟨fun pins s st H Q I ⟨e, S, F, w, re, p⟩ => pts_nil.run pins s st H Q I (p.ok w)⟩
    · cases h
  | [c], sc, e, h, X, Xq, g, o => by
    unfold mIf at h; split at h
    · exact pts_one (mT_ok c sc _ h X Xq g o)
    · cases h
  | _ :: _ :: _, sc, e, h, X, Xq, g, o => by unfold mIf at h; cases h
theorem mI_ok : ∀ (c : CE) (sc : Sc) (t e : Expr), mI c sc t e = true → ∀ X Xq, Gx fns cs kb C G xq CX k X Xq → ScOk fns cs kb sc X → SI X Xq t e (dI C G c) := by
  intro c
  cases c <;> intro sc t e h X Xq g o <;> try (unfold mI at h; cases h; done)
  case rng as =>
    unfold mI at h; split at h
    · simp only [Bool.and_eq_true, decide_eq_true_eq, Bool.or_eq_true] at h
      obtain ⟨⟨⟨h1, h2⟩, h3⟩, h4⟩ := h
      subst h1
      have hg := gl_of (X := X) (by rw [o.names]; exact h2)
      have hm := g.blt "range" (by decide)
      have hl := mL_len h3
      rcases h4 with h4 | h4
      · obtain ⟨e1, rfl⟩ := len1_of h4
        obtain ⟨a, rfl⟩ := len1_of (hl.trans h4)
        simp only [mL, Bool.and_eq_true] at h3
        refine (si_rng1 hg hm (mE_ok a sc _ h3.1.2 X Xq g o) (star_of h3.1.1)).to ?_
        funext e S
        show _ = (dL C G [a] e S).bind fun rs S1 => lift ((asDs S1 rs).bind rngD) S1
        show _ = ((dE C G a e S).bind fun x S1 => (Out.ok [] S1).bind fun xs S2 => .ok (x :: xs) S2).bind _
        rw [bind_assoc]; rfl
      · obtain ⟨e1, e2, rfl⟩ := len2_of h4
        obtain ⟨a, b, rfl⟩ := len2_of (hl.trans h4)
        simp only [mL, Bool.and_eq_true] at h3
        refine (si_rng2 hg hm (mE_ok a sc _ h3.1.2 X Xq g o) (mE_ok b sc _ h3.2.1.2 X Xq g o) (by rw [star_of h3.1.1, star_of h3.2.1.1]; rfl) (star_of h3.2.1.1)).to ?_
        funext e S
        show _ = (dL C G [a, b] e S).bind fun rs S1 => lift ((asDs S1 rs).bind rngD) S1
        show _ = ((dE C G a e S).bind fun x S1 => ((dE C G b e S1).bind fun x S1 => (Out.ok [] S1).bind fun xs S2 => .ok (x :: xs) S2).bind fun xs S2 => .ok (x :: xs) S2).bind _
        simp only [bind_assoc, Out.bind_ok]
    · cases h
  case zip as =>
    unfold mI at h; split at h
    · simp only [Bool.and_eq_true, decide_eq_true_eq, Bool.or_eq_true] at h
      obtain ⟨⟨⟨⟨h1, h2⟩, h3⟩, h4⟩, h5⟩ := h
      subst h1
      have hg := gl_of (X := X) (by rw [o.names]; exact h2)
      have hm := g.blt "zip" (by decide)
      have hl := mL_len h3
      split at h5
      · rcases h4 with h4 | h4
        · obtain ⟨e1, e2, rfl⟩ := len2_of h4
          obtain ⟨a, b, rfl⟩ := len2_of (hl.trans h4)
          simp only [mL, Bool.and_eq_true] at h3
          refine (si_zip2 hg hm (mE_ok a sc _ h3.1.2 X Xq g o) (mE_ok b sc _ h3.2.1.2 X Xq g o) (star_of h3.1.1) (star_of h3.2.1.1)).to ?_
          funext e S
          show _ = ((dE C G a e S).bind fun x S1 => ((dE C G b e S1).bind fun x S1 => (Out.ok [] S1).bind fun xs S2 => .ok (x :: xs) S2).bind fun xs S2 => .ok (x :: xs) S2).bind fun rs S1 => lift ((pureDs rs).bind zipD) S1
          simp only [bind_assoc, Out.bind_ok]
        · obtain ⟨e1, e2, e3, rfl⟩ := len3_of h4
          obtain ⟨a, b, c, rfl⟩ := len3_of (hl.trans h4)
          simp only [mL, Bool.and_eq_true] at h3
          refine (si_zip3 hg hm (mE_ok a sc _ h3.1.2 X Xq g o) (mE_ok b sc _ h3.2.1.2 X Xq g o) (mE_ok c sc _ h3.2.2.1.2 X Xq g o) (star_of h3.1.1) (star_of h3.2.1.1) (star_of h3.2.2.1.1)).to ?_
          funext e S
          show _ = ((dE C G a e S).bind fun x S1 => ((dE C G b e S1).bind fun x S1 => ((dE C G c e S1).bind fun x S1 => (Out.ok [] S1).bind fun xs S2 => .ok (x :: xs) S2).bind fun xs S2 => .ok (x :: xs) S2).bind fun xs S2 => .ok (x :: xs) S2).bind fun rs S1 => lift ((pureDs rs).bind zipD) S1
          simp only [bind_assoc, Out.bind_ok]
      · cases h5
    · cases h
  case enum a =>
    unfold mI at h; split at h
    · simp only [Bool.and_eq_true, decide_eq_true_eq] at h
      obtain ⟨⟨⟨⟨h1, h2⟩, h3⟩, h4⟩, h5⟩ := h
      subst h1
      have hg := gl_of (X := X) (by rw [o.names]; exact h2)
      have hm := g.blt "enumerate" (by decide)
      split at h5
      · exact si_enum hg hm (mE_ok a sc _ h4 X Xq g o) (star_of h3)
      · cases h5
    · cases h
  case v i =>
    unfold mI at h; split at h
    · exact si_val (ok_v o h)
    · cases h
  case g x =>
    unfold mI at h; split at h
    · refine (si_val (ok_g g o h)).to ?_
      funext e S
      show _ = lift ((G x).bind itemsD) S
      cases G x <;> rfl
    · cases h
  case tup es =>
    unfold mI at h; split at h
    · refine (si_val (se_tup (mL_ok es sc _ h X Xq g o))).to ?_
      funext e S
      show _ = (dL C G es e S).bind fun rs S1 => lift ((pureDs rs).bind fun ds => if lenFits ds.length then some ds else none) S1
      simp only [bind_assoc, lift_bind, Option.bind_assoc]
      congr 1
      funext rs S1
      congr 1
      cases pureDs rs with
      | none => rfl
      | some ds => simp only [Option.bind_some]; split <;> rfl
    · cases h
  case lst es =>
    unfold mI at h; split at h
    · refine (si_val (se_lst (mL_ok es sc _ h X Xq g o))).to ?_
      funext e S
      show _ = (dL C G es e S).bind fun rs S1 => lift ((pureDs rs).bind fun ds => if lenFits ds.length then some ds else none) S1
      simp only [bind_assoc, lift_bind, Option.bind_assoc]
      congr 1
      funext rs S1
      congr 1
      cases pureDs rs with
      | none => rfl
      | some ds => simp only [Option.bind_some]; split <;> rfl
    · cases h
  case ix a b =>
    unfold mI at h; split at h
    · simp only [Bool.and_eq_true] at h
      refine (si_val (se_ix g.lit (mE_ok a sc _ h.1.2 X Xq g o) (mE_ok b sc _ h.2 X Xq g o) (slice_of h.1.1))).to ?_
      funext e S
      show _ = (dE C G a e S).bind fun x S1 => (dE C G b e S1).bind fun y S2 => lift ((asD x S2).bind fun p => (asD y S2).bind fun q => (ixD p q).bind itemsD) S2
      simp only [bind_assoc, lift_bind, Option.bind_assoc, Option.bind_map]
      rfl
    · cases h
  case sl a lo hi =>
    unfold mI at h; split at h
    · simp only [Bool.and_eq_true] at h
      refine (si_val (se_sl (mE_ok a sc _ h.1.1 X Xq g o) (mO_ok lo sc _ h.1.2 X Xq g o) (mO_ok hi sc _ h.2 X Xq g o))).to ?_
      funext e S
      show _ = (dE C G a e S).bind fun x S1 => (dO C G lo e S1).bind fun l S2 => (dO C G hi e S2).bind fun h S3 => lift ((asD x S3).bind fun p => (slD p l h).bind itemsD) S3
      simp only [bind_assoc, lift_bind, Option.bind_assoc, Option.bind_map]
      rfl
    · cases h
  case call f as =>
    unfold mI at h; split at h
    · refine (si_val (ok_call g o h (mL_ok as sc _ (by simp only [Bool.and_eq_true] at h; exact h.2) X Xq g o))).to ?_
      funext e S
      show _ = (dL C G as e S).bind fun rs S1 => (C f rs S1).bind fun x S2 => lift ((pureD x).bind itemsD) S2
      rw [bind_assoc]
    · cases h
  case bop op a b =>
    unfold mI at h; split at h
    · simp only [Bool.and_eq_true, decide_eq_true_eq] at h
      obtain ⟨⟨h1, h2⟩, h3⟩ := h
      subst h1
      obtain ⟨r, hr, hs⟩ := bop_ok (X := X) op
      refine (si_val (se_bop hr hs (mE_ok a sc _ h2 X Xq g o) (mE_ok b sc _ h3 X Xq g o))).to ?_
      funext e S
      show _ = (dE C G a e S).bind fun x S1 => (dE C G b e S1).bind fun y S2 => lift ((asW x S2).bind fun p => (asW y S2).bind fun q => (opB op p q).bind itemsD) S2
      simp only [bind_assoc, lift_bind, Option.bind_assoc, Option.bind_map]
      rfl
    · cases h
  case bi f as =>
    unfold mI at h; split at h
    · refine (si_val (ok_bi g o h (mL_ok as sc _ (by simp only [Bool.and_eq_true] at h; exact h.2) X Xq g o))).to ?_
      funext e S
      show _ = (dL C G as e S).bind fun rs S1 => lift ((asDs S1 rs).bind fun ds => (biD f ds).bind itemsD) S1
      simp only [bind_assoc, lift_bind, Option.bind_assoc, Option.bind_map]
      rfl
    · cases h
  case ss a =>
    unfold mI at h; split at h
    · simp only [Bool.and_eq_true, decide_eq_true_eq] at h
      obtain ⟨⟨⟨⟨⟨k1, k2⟩, h1⟩, h2⟩, h3⟩, h4⟩ := h
      subst h1; subst k1
      refine (si_val (se_ss g.calm g.units (gl_of (X := X) (by rw [o.names]; exact k2)) (g.blt "sorted" (by decide)) (gl_of (X := X) (by rw [o.names]; exact h2)) (g.blt "set" (by decide)) (mE_ok a sc _ h4 X Xq g o) (star_of h3))).to ?_
      funext e S
      show _ = (dE C G a e S).bind fun x S1 => lift ((asDs S1 [x]).bind fun ds => (ssD ds).bind itemsD) S1
      simp only [bind_assoc, lift_bind, Option.bind_assoc, Option.bind_map]
      rfl
    · cases h
  case lc elt tg it ifs own =>
    unfold mI at h; split at h
    · rename_i elt' t' it' ifs' scope pos
      simp only [Bool.and_eq_true, decide_eq_true_eq] at h
      obtain ⟨⟨⟨⟨⟨⟨h1, h2⟩, _⟩, h3⟩, h4⟩, h5⟩, h6⟩ := h
      have b := blkOk_by h2
      have hb : BlkOk X.N X.env.scope scope (ownOf sc.N own) := ⟨b.kind, b.uniq, by rw [← o.N]; exact b.ix, fun y hy e => by rw [o.names]; exact b.free y hy e, by rw [← o.N]; exact b.own⟩
      have eo : (ownOf sc.N own).map (·.2) = own := by unfold ownOf; rw [List.map_map]; exact List.map_id' own
      have gb : ∀ (s : Shared) (H : Hp) (A : Addr) (cl : List (Str × Addr)) (fp : List Addr), Gx fns cs kb C G xq CX k (X.blk s H scope (compEnvC scope cl A X.env) fp) XF := fun s H A cl fp => g.blk b.kind
      have ob : ∀ (s : Shared) (H : Hp) (A : Addr) (cl : List (Str × Addr)) (fp : List Addr), ScOk fns cs kb { sc with names := blkNames sc.names scope, all := false, cl := cellsOf scope } (X.blk s H scope (compEnvC scope cl A X.env) fp) := fun s H A cl fp =>
        ⟨o.N, blk_names g.kind o.names, fun z => absurd z Bool.false_ne_true, o.fns, o.cs, o.kb, o.gc, fun x hx => cells_of hx⟩
      have q : SE X Xq (.ListComp elt' [⟨t', it', ifs', 0⟩] scope pos) (dE C G (.lc elt tg it ifs own)) := by
       refine (se_lc (own := ownOf sc.N own) (fi := dI C G it) (fg := dA C G tg) (ft := dIfs C G ifs) (fe := dE C G elt) g.calm g.nd (mI_ok it sc t' it' h3 X Xq g o) hb (fun s H A cl fp => ?_) (fun s H A cl fp => ?_) (fun s H A cl fp => ?_) (set_of h1)).to ?_
       · rw [eo]; exact mG_ok tg _ own _ h4 _ _ (gb s H A cl fp) (ob s H A cl fp)
       · exact mIf_ok ifs _ _ h5 _ _ (gb s H A cl fp) (ob s H A cl fp)
       · exact mE_ok elt _ _ h6 _ _ (gb s H A cl fp) (ob s H A cl fp)
       · rw [eo]; rfl
      exact (si_val q).to rfl
    · cases h
theorem mG_ok : ∀ (c : Tg) (sc : Sc) (vs : List Nat) (e : Expr), mG c sc vs e = true → ∀ X Xq, Gx fns cs kb C G xq CX k X Xq → ScOk fns cs kb sc X → SG X Xq vs e (dA C G c)
  | .v i, sc, vs, e, h, X, Xq, g, o => by
    unfold mG at h; split at h
    · exact loc_ok g o h
    · cases h
  | .t ts, sc, vs, e, h, X, Xq, g, o => by
    unfold mG at h; split at h
    · obtain ⟨q1, q2, q3⟩ := mGs_ok ts sc vs _ h X Xq g o
      exact sg_t g.calm q1 q2 q3
    · cases h
  | .ix a b, sc, vs, e, h, X, Xq, g, o => by
    unfold mG at h; split at h
    · simp only [Bool.and_eq_true] at h
      exact sg_ix (mE_ok a sc _ h.1.2 X Xq g o) (mE_ok b sc _ h.2 X Xq g o) (setItem_of h.1.1)
    · cases h
theorem mGs_ok : ∀ (c : List Tg) (sc : Sc) (vs : List Nat) (e : List Expr), mGs c sc vs e = true → ∀ X Xq, Gx fns cs kb C G xq CX k X Xq → ScOk fns cs kb sc X → SGs X Xq vs e (dAs C G c) ∧ (assignEach e X.env).length = c.length ∧ (assignEach e X.env).findIdx? (·.1) = none
  | [], sc, vs, e, h, X, Xq, g, o => by
    unfold mGs at h; split at h
    · refine ⟨?_, rfl, rfl⟩
      have q := sgs_nil (X := X) (Xq := Xq) (vs := vs)
      have : (fun ds e S => match ds with | [] => Out.ok e S | _ => .bad) = dAs C G [] := by
        funext ds e S
        cases ds <;> rfl
      rw [← this]; exact q
    · cases h
  | t :: ts, sc, vs, e, h, X, Xq, g, o => by
    unfold mGs at h; split at h
    · simp only [Bool.and_eq_true] at h
      have q := mG_ok t sc vs _ h.1.2 X Xq g o
      obtain ⟨q1, q2, q3⟩ := mGs_ok ts sc vs _ h.2 X Xq g o
      have ea := fun es => assignEach_cons (es := es) (env := X.env) h.1.1
      refine ⟨?_, by rw [ea, List.length_cons, q2]; rfl, by rw [ea, List.findIdx?_cons]; simp [q3]⟩
      have z := sgs_cons q q1 (by rw [ea]; rfl)
      have : (fun (ds : List D) (e : Ev) (S : Store) => match ds with | d :: ds => (dA C G t (.d d) e S).bind fun e1 S1 => dAs C G ts ds e1 S1 | _ => .bad) = dAs C G (t :: ts) := by
        funext ds e S
        cases ds <;> rfl
      rw [← this]; exact z
    · cases h
end
end
end Sx
set_option Elab.async false
set_option linter.all false
set_option maxHeartbeats 4000000
/-! Sx, part N: the checked reading is sound: statements. -/
namespace Sx
open PySem PySem.Spec PyProof.Rows L2
def parB (sc : Sc) (l : Nat) : List Nat → List Expr → Bool
  | [], [] => true
  | i :: is, .Name x p :: ts => decide (sc.N[i]? = some x) && isLo sc.names x && decide (p.line = l) && parB sc l is ts
  | _, _ => false
def lineOf (ts : List Expr) : Nat := (ts.head?.map (·.pos.line)).getD 0
/-- a tuple into a tuple, stored from the left -/
def swapB (names : List (Str × NameKind)) : Expr → Expr → Bool
  | .Tuple ts _ _, .Tuple vs _ _ => vs.all nstar && decide ((ts.filterMap fun
      | .Name id pos => if names.lookup id == some .local && pos.line == lineOf ts then some id else none
      | _ => none).length ≠ ts.length)
  | _, _ => false
/-- two names into which a tuple of two is stored, the one or the other not local: by a tuple on the heap -/
def twoB (sc : Sc) : List Nat → List Expr → Bool
  | [i, j], [.Name x px, .Name y py] => decide (i ≠ j) && (decide (sc.N[i]? = some x) && isLoc sc.names x && (sc.all || isLo sc.names x || sc.cl.contains x)) && (decide (sc.N[j]? = some y) && isLoc sc.names y && (sc.all || isLo sc.names y || sc.cl.contains y))
  | _, _ => false
/-- four names and more, into which a tuple is stored: by a tuple on the heap -/
def manyB (sc : Sc) : List Nat → List Expr → Bool
  | [], [] => true
  | i :: is, .Name x p :: ts => decide (sc.N[i]? = some x) && isLoc sc.names x && (sc.all || isLo sc.names x || sc.cl.contains x) && manyB sc is ts
  | _, _ => false
mutual
def mS : CS → Sc → Stmt → Bool
  | .asg t a, sc, s => match s with
    | .Assign [t'] a' _ => nstar t' && (ntup t' || ntup a' || swapB sc.names t' a') && mG t sc (List.range sc.N.length) t' && mE a sc a'
    | _ => false
  | .par is cs, sc, s => match s with
    | .Assign [.Tuple ts kt pt] (.Tuple es k2 p2) _ => ((decide (is.length = 2) || decide (is.length = 3)) && decide (es.length = is.length) && decide is.Nodup && parB sc (lineOf ts) is ts && mL cs sc es && !es.all (foldedForSure 8) && !es.all (constantsAlone 8)) ||
      (decide (es.length = 2) && swapB sc.names (.Tuple ts kt pt) (.Tuple es k2 p2) && twoB sc is ts && mL cs sc es) ||
      (decide (4 ≤ is.length) && decide (ts.length = is.length) && decide (es.length = is.length) && decide (es.length ≤ 100) && manyB sc is ts && mL cs sc es)
    | _ => false
  | .ex a, sc, s => match s with
    | .Expr a' _ => ncomp a' && mE a sc a'
    | _ => false
  | .ret a, sc, s => match s with
    | .Return (some a') _ => mE a sc a'
    | _ => false
  | .ret0, _, s => match s with
    | .Return none _ => true
    | _ => false
  | .ite c a b, sc, s => match s with
    | .If c' a' b' _ => mT c sc c' && mSB a sc a' && mSB b sc b'
    | _ => false
  | .for_ t it body, sc, s => match s with
    | .For t' it' b' [] _ => nset it' && mI it sc t' it' && mG t sc (List.range sc.N.length) t' && mSB body sc b'
    | _ => false
  | .while_ c body, sc, s => match s with
    | .While c' b' [] _ => mT c sc c' && mSB body sc b'
    | _ => false
  | .pass, _, s => match s with
    | .Pass _ => true
    | .Expr (.Constant (.str _) _ _) _ => true
    | _ => false
  | .brk, _, s => match s with
    | .Break _ => true
    | _ => false
  | .cnt, _, s => match s with
    | .Continue _ => true
    | _ => false
  | .never, _, _ => true
  | .fz _, _, _ => false
def mSB : List CS → Sc → List Stmt → Bool
  | [], _, ss => match ss with
    | [] => true
    | _ => false
  | c :: cs, sc, ss => match c with
    | .fz _ => mSB cs sc ss
    | c => match ss with
      | s :: ss => mS c sc s && mSB cs sc ss
      | _ => false
end

theorem blockKind_of {env : PySem.Env} (hk : env.scope.kind = .function) : env.blockKind = .function := by
  unfold PySem.Env.blockKind; rw [hk]; rfl
theorem swaps_of {a : Expr} {tg : Option Expr} {l : Nat} {env : PySem.Env} (h : ncomp a = true) : swapsWith a tg l env = pure false := by
  cases a <;> first | rfl | cases h
theorem stores_of {t a : Expr} {env : PySem.Env} (h : (ntup t || ntup a) = true) : swappedStores [t] a env = pure none := by
  cases t <;> first | rfl | (cases a <;> first | rfl | cases h)
theorem any_star {es : List Expr} (h : es.all nstar = true) : ∀ u ∈ es, ∀ e p, u ≠ .Starred e p := fun u hu e p z => by
  have := List.all_eq_true.mp h u hu
  subst z; cases this
theorem stores_of2 {t a : Expr} {env : PySem.Env} {names : List (Str × NameKind)} (hn : env.scope.names = names) (h : (ntup t || ntup a || swapB names t a) = true) : swappedStores [t] a env = pure none := by
  rw [Bool.or_eq_true] at h
  rcases h with h | h
  · exact stores_of h
  · cases t <;> try (cases h; done)
    case Tuple ts k p =>
      cases a <;> try (cases h; done)
      case Tuple vs k2 p2 =>
        unfold swapB at h
        rw [Bool.and_eq_true] at h
        have h2 := of_decide_eq_true h.2
        unfold swappedStores
        dsimp only
        split
        · rfl
        · split
          · rfl
          · have e : (ts.filterMap fun
                | .Name id pos => if env.kindOf id == some .local && pos.line == (ts.head?.map (·.pos.line)).getD 0 then some id else none
                | _ => none) = ts.filterMap fun
                | .Name id pos => if names.lookup id == some .local && pos.line == lineOf ts then some id else none
                | _ => none := by
              rw [← hn]; rfl
            split
            · rfl
            · rename_i hx
              exfalso
              simp only [Bool.or_eq_true, bne_iff_ne, ne_eq, not_or, Decidable.not_not] at hx
              exact h2 (by rw [← e]; exact hx.1)
theorem assign1_of {t : Expr} {env : PySem.Env} (h : nstar t = true) : (assignEach [t] env).map (·.2) = [assign t env] := by
  cases t <;> first | rfl | cases h
theorem kind_of_lo {env : PySem.Env} {x : Str} (h : env.scope.names.lookup x = some .local) : env.kindOf x = some .local := h
section
variable {X : Cx} {Xq : XW} {fi : Ev → Store → Out (List D)} {fg : R → Ev → Store → Out Ev} {ft : Ev → Store → Out Bool} {fe : Fe} {fl : Ev → Store → Out (List R)}
/-- a list comprehension into a local name on the same line -/
theorem ss_setLc {i : Nat} {y : Str} {py : Pos} {elt tg iter : Expr} {ifs : List Expr} {scope : Scope} {own : List (Str × Nat)} {pos spos : Pos} {gg : R → Store → Out R} (hgg : gg = Out.ok ∨ gg = newD) (hc : X.calm = true) (hN : X.N.Nodup) (hy : X.N[i]? = some y) (hyl : X.env.scope.names.lookup y = some .local)
    (hsw : swapsWith (.ListComp elt [⟨tg, iter, ifs, 0⟩] scope pos) (some (.Name y py)) spos.line X.env = pure true) (hi : SI X Xq tg iter fi) (ok : BlkOk X.N X.env.scope scope own)
    (hg : ∀ (s : Shared) (H : Hp) (C : Addr) (cl : List (Str × Addr)) (fp : List Addr), SG (X.blk s H scope (compEnvC scope cl C X.env) fp) XF (own.map (·.2)) tg fg) (ht : ∀ (s : Shared) (H : Hp) (C : Addr) (cl : List (Str × Addr)) (fp : List Addr), PTs (X.blk s H scope (compEnvC scope cl C X.env) fp) ifs (RT X.K XF ft))
    (he : ∀ (s : Shared) (H : Hp) (C : Addr) (cl : List (Str × Addr)) (fp : List Addr), SE (X.blk s H scope (compEnvC scope cl C X.env) fp) XF elt fe) (hs : ∀ x, foldedSetIterable iter X.env x = pure x) :
    SS X Xq (.Assign [.Name y py] (.ListComp elt [⟨tg, iter, ifs, 0⟩] scope pos) spos) (fun e S => ((lcF fi (own.map (·.2)) fg ft fe e S).bind gg).bind fun r S1 => (Out.ok (e.set i (some r)) S1).bind fun e1 S2 => .ok (.nx, e1) S2) :=
  (ps_setLc hc hN hy hyl hsw hi ok hg ht he hs).weak fun D st H h => lc_okG hgg (Q := fun x H1 => gName i x st H1 D.nx) (EX.e (g := fun e r S1 => (Out.ok (e.set i (some r)) S1).bind fun e1 S2 => Out.ok (Fl.nx, e1) S2) h fun e x S1 F1 H1 v w re hv p => by
    have p : Post X.K Xq H1 S1 F1 (.ok (Fl.nx, e.set i (some x)) S1) (EndOk X.K D) := p
    exact p.ok w _ (re.set i hv))
theorem ss_par2 {i j : Nat} {x y : Str} {a b : Expr} {px py pt pos : Pos} {kt k2 pt2} (hc : X.calm = true) (hN : X.N.Nodup) (hi : X.N[i]? = some x) (hj : X.N[j]? = some y) (hij : i ≠ j)
    (hx : X.env.scope.names.lookup x = some .local) (hy : X.env.scope.names.lookup y = some .local) (ha : SA X Xq [a, b] fl)
    (hw : swappedStores [.Tuple [.Name x px, .Name y py] kt pt] (.Tuple [a, b] k2 pt2) X.env = pure (some [x, y])) :
    SS X Xq (.Assign [.Tuple [.Name x px, .Name y py] kt pt] (.Tuple [a, b] k2 pt2) pos) (fun e S => (fl e S).bind fun rs S1 => (lift (setAll [i, j] rs e) S1).bind fun e1 S2 => .ok (.nx, e1) S2) :=
  (ps_par hc hN hi hj hij hx hy ha hw rfl).weak fun D st H h => EX.a (g := fun e rs S1 => (lift (setAll [i, j] rs e) S1).bind fun e1 S2 => Out.ok (Fl.nx, e1) S2) h fun e rs S1 F1 H1 vs w re hv p => by
    cases hv with
    | nil => exact p.elim
    | cons h1 t => cases t with
      | nil => exact p.elim
      | cons h2 t => cases t with
        | cons _ _ => exact p.elim
        | nil =>
          refine ⟨_, _, rfl, ?_⟩
          have p : Post X.K Xq H1 S1 F1 (.ok (Fl.nx, (e.set i (some _)).set j (some _)) S1) (EndOk X.K D) := p
          exact p.ok w _ ((re.set i h1).set j h2)
theorem ss_par3 {i j l : Nat} {x y z : Str} {a b c : Expr} {px py pz pt pos : Pos} {kt k2 pt2} (hc : X.calm = true) (hN : X.N.Nodup) (hi : X.N[i]? = some x) (hj : X.N[j]? = some y) (hl : X.N[l]? = some z) (hij : i ≠ j) (hil : i ≠ l) (hjl : j ≠ l)
    (hx : X.env.scope.names.lookup x = some .local) (hy : X.env.scope.names.lookup y = some .local) (hz : X.env.scope.names.lookup z = some .local) (ha : SA X Xq [a, b, c] fl)
    (hw : swappedStores [.Tuple [.Name x px, .Name y py, .Name z pz] kt pt] (.Tuple [a, b, c] k2 pt2) X.env = pure (some [x, y, z])) :
    SS X Xq (.Assign [.Tuple [.Name x px, .Name y py, .Name z pz] kt pt] (.Tuple [a, b, c] k2 pt2) pos) (fun e S => (fl e S).bind fun rs S1 => (lift (setAll [i, j, l] rs e) S1).bind fun e1 S2 => .ok (.nx, e1) S2) :=
  (ps_par3 hc hN hi hj hl hij hil hjl hx hy hz ha hw rfl).weak fun D st H h => EX.a (g := fun e rs S1 => (lift (setAll [i, j, l] rs e) S1).bind fun e1 S2 => Out.ok (Fl.nx, e1) S2) h fun e rs S1 F1 H1 vs w re hv p => by
    cases hv with
    | nil => exact p.elim
    | cons h1 t => cases t with
      | nil => exact p.elim
      | cons h2 t => cases t with
        | nil => exact p.elim
        | cons h3 t => cases t with
          | cons _ _ => exact p.elim
          | nil =>
            refine ⟨_, _, _, rfl, ?_⟩
            have p : Post X.K Xq H1 S1 F1 (.ok (Fl.nx, ((e.set i (some _)).set j (some _)).set l (some _)) S1) (EndOk X.K D) := p
            exact p.ok w _ (((re.set i h1).set j h2).set l h3)
theorem ss_tup2 {i j : Nat} {x y : Str} {a b : Expr} {px py pt pos : Pos} {kt k2 pt2} (hc : X.calm = true) (hN : X.N.Nodup) (hi : X.N[i]? = some x) (hj : X.N[j]? = some y) (hij : i ≠ j)
    (hx : Loc X.env.scope x) (hy : Loc X.env.scope y) (fx : X.fn x = true ∨ X.env.scope.names.lookup x = some .local) (fy : X.fn y = true ∨ X.env.scope.names.lookup y = some .local) (ha : SA X Xq [a, b] fl)
    (hw : swappedStores [.Tuple [.Name x px, .Name y py] kt pt] (.Tuple [a, b] k2 pt2) X.env = pure none) :
    SS X Xq (.Assign [.Tuple [.Name x px, .Name y py] kt pt] (.Tuple [a, b] k2 pt2) pos) (fun e S => (fl e S).bind fun rs S1 => (lift (setAll [i, j] rs e) S1).bind fun e1 S2 => .ok (.nx, e1) S2) :=
  (ps_asg (pe_tup ha) (pg_tup hc (pgs_cons (pg_name hN hi hx fx) (pgs_cons (pg_name hN hj hy fy) pgs_nil))) rfl hw rfl).weak fun D st H h => EX.a (g := fun e rs S1 => (lift (setAll [i, j] rs e) S1).bind fun e1 S2 => Out.ok (Fl.nx, e1) S2) h fun e rs S1 F1 H1 vs w re hv p => by
    cases hv with
    | nil => exact p.elim
    | cons h1 t => cases t with
      | nil => exact p.elim
      | cons h2 t => cases t with
        | cons _ _ => exact p.elim
        | nil =>
          refine ⟨by simp [sizeLine], fun q hq => ?_⟩
          obtain ⟨w1, l1⟩ := w.alloc (o := .tup _) hq
          refine ⟨q, _, rfl, .inl (.inl upd_same), rfl, _, _, rfl, _, _, rfl, rfl, ?_⟩
          have p : Post X.K Xq H1 S1 F1 (.ok (Fl.nx, (e.set i (some _)).set j (some _)) S1) (EndOk X.K D) := p
          exact p.at_ w1 l1 _ (((re.le l1).set i (h1.le l1)).set j (h2.le l1))
/-- names, one behind the other -/
def gNames : List Nat → TGs
  | [] => gNil
  | i :: is => gCons (gName i) (gNames is)
theorem gNames_of {K : PySem.W.Frag} {H : Hp} {S : Store} {F : Nat → Addr} {Q : L2.St → Hp → Prop} : ∀ {is : List Nat} {rs : List R} {vs : List V} {e e1 : Ev} {st : L2.St}, RepAll K H S F vs rs → setAll is rs e = some e1 → RepE K H S F e st →
    (∀ st', RepE K H S F e1 st' → Q st' H) → gNames is vs st H Q
  | [], [], _, e, e1, st, .nil, h, re, q => by cases h; exact ⟨rfl, q _ re⟩
  | i :: is, r :: rs, _, e, e1, st, .cons h1 t, h, re, q => ⟨_, _, rfl, gNames_of t h (re.set i h1) q⟩
  | [], _ :: _, _, _, _, _, _, h, _, _ => by cases h
  | _ :: _, [], _, _, _, _, _, h, _, _ => by cases h
theorem ss_tupN {is : List Nat} {ts es : List Expr} {pt pos : Pos} {kt k2 pt2} (hc : X.calm = true) (hg : PGs X ts (gNames is)) (hn : (assignEach ts X.env).length = is.length) (hst : (assignEach ts X.env).findIdx? (·.1) = none) (hl : es.length ≤ 100) (hes : es.length = is.length) (ha : SA X Xq es fl)
    (hw : swappedStores [.Tuple ts kt pt] (.Tuple es k2 pt2) X.env = pure none) :
    SS X Xq (.Assign [.Tuple ts kt pt] (.Tuple es k2 pt2) pos) (fun e S => (fl e S).bind fun rs S1 => (lift (setAll is rs e) S1).bind fun e1 S2 => .ok (.nx, e1) S2) :=
  (ps_asg (pe_tup ha) (pg_tup hc hg hn hst) rfl hw rfl).weak fun D st H h => EX.a (g := fun e rs S1 => (lift (setAll is rs e) S1).bind fun e1 S2 => Out.ok (Fl.nx, e1) S2) h fun e rs S1 F1 H1 vs w re hv p => by
    cases h1 : setAll is rs e with
    | none => rw [h1] at p; exact p.elim
    | some e1 =>
      rw [h1] at p
      have hlr : rs.length = is.length := by
        have : ∀ (is : List Nat) (rs : List R) (e e1 : Ev), setAll is rs e = some e1 → rs.length = is.length := by
          intro is
          induction is with
          | nil => intro rs e e1 h; cases rs with
            | nil => rfl
            | cons _ _ => cases h
          | cons i is ih => intro rs e e1 h; cases rs with
            | nil => cases h
            | cons r rs => rw [List.length_cons, List.length_cons, ih rs _ _ h]
        exact this _ _ _ _ h1
      have hvl := hv.length
      refine ⟨by unfold sizeLine; omega, fun q hq => ?_⟩
      obtain ⟨w1, l1⟩ := w.alloc (o := .tup vs) hq
      refine ⟨q, _, rfl, .inl (.inl upd_same), by omega, gNames_of (hv.le l1) h1 (re.le l1) fun st' re' => ?_⟩
      exact p.at_ w1 l1 _ re'
/-- a mutable list is given up, without a row of the text -/
theorem ss_fz {C : Fns} {G : String → Option D} {i : Nat} {ss : List Stmt} {f : Fs} (h : SSs X Xq ss f) : SSs X Xq ss (fun e S => (dS C G (.fz i) e S).bind fun p S1 => match p.1 with | .nx => f p.2 S1 | fl => .ok (fl, p.2) S1) :=
  h.weak fun D st H q => by
    obtain ⟨e, S, F, w, re, p⟩ := q
    have p : Post X.K Xq H S F ((match e[i]? with
      | some (some (.ref a)) => match S[a]? with
        | some (.lst ds) => Out.ok (Fl.nx, e.set i (some (.d (.list ds)))) (S.set a .gone)
        | _ => .bad
      | _ => .bad).bind fun p S1 => match p.1 with | .nx => f p.2 S1 | fl => .ok (fl, p.2) S1) (EndOk X.K D) := p
    cases h1 : e[i]? with
    | none => rw [h1] at p; exact p.elim
    | some o =>
      rw [h1] at p
      cases o with
      | none => exact p.elim
      | some r =>
        cases r with
        | d y => exact p.elim
        | ref a =>
          dsimp only at p
          cases h2 : S[a]? with
          | none => rw [h2] at p; exact p.elim
          | some cl =>
            rw [h2] at p
            cases cl with
            | gone => exact p.elim
            | ro _ => exact p.elim
            | lst ds =>
              have p : Post X.K Xq H S F (f (e.set i (some (.d (.list ds)))) (S.set a .gone)) (EndOk X.K D) := p
              obtain ⟨w1, l1, d1⟩ := w.freeze h2
              obtain ⟨v, hv, rv⟩ := re.at_ i _ h1
              obtain ⟨hlt, rfl⟩ := rv
              have re1 := (re.le l1).set (v := .ref (F a)) (r := .d (.list ds)) i d1
              have es : st.set i (some (.ref (F a))) = st := by
                have hi := lt_of_get hv
                refine List.ext_getElem? fun j => ?_
                by_cases hj : i = j
                · subst hj; rw [List.getElem?_set_self hi, hv]
                · rw [List.getElem?_set_ne hj]
              rw [es] at re1
              exact ⟨_, _, F, w1, re1, p.mono l1⟩
end
section
variable {fns cs : List String} {kb : List KE} {C : Fns} {G : String → Option D} {xq : XK → XW} {CX : CXT} {k : Nat}
theorem lc_facts {elt : CE} {t : Tg} {it : CE} {ifs : List CE} {own : List Nat} {sc : Sc} {e : Expr} (h : mE (.lc elt t it ifs own) sc e = true) {X : Cx} {Xq : XW} (g : Gx fns cs kb C G xq CX k X Xq) (o : ScOk fns cs kb sc X) :
    ∃ elt' t' it' ifs' scope pos, e = .ListComp elt' [⟨t', it', ifs', 0⟩] scope pos ∧ SI X Xq t' it' (dI C G it) ∧ BlkOk X.N X.env.scope scope (ownOf sc.N own) ∧ (∀ x, foldedSetIterable it' X.env x = pure x) ∧
      (∀ (s : Shared) (H : Hp) (A : Addr) (cl : List (Str × Addr)) (fp : List Addr), SG (X.blk s H scope (compEnvC scope cl A X.env) fp) XF ((ownOf sc.N own).map (·.2)) t' (dA C G t)) ∧
      (∀ (s : Shared) (H : Hp) (A : Addr) (cl : List (Str × Addr)) (fp : List Addr), PTs (X.blk s H scope (compEnvC scope cl A X.env) fp) ifs' (RT X.K XF (dIfs C G ifs))) ∧
      (∀ (s : Shared) (H : Hp) (A : Addr) (cl : List (Str × Addr)) (fp : List Addr), SE (X.blk s H scope (compEnvC scope cl A X.env) fp) XF elt' (dE C G elt)) := by
  unfold mE at h; split at h
  · rename_i elt' t' it' ifs' scope pos
    simp only [Bool.and_eq_true, decide_eq_true_eq] at h
    obtain ⟨⟨⟨⟨⟨⟨h1, h2⟩, _⟩, h3⟩, h4⟩, h5⟩, h6⟩ := h
    have b := blkOk_by h2
    have hb : BlkOk X.N X.env.scope scope (ownOf sc.N own) := ⟨b.kind, b.uniq, by rw [← o.N]; exact b.ix, fun y hy e => by rw [o.names]; exact b.free y hy e, by rw [← o.N]; exact b.own⟩
    have eo : (ownOf sc.N own).map (·.2) = own := by unfold ownOf; rw [List.map_map]; exact List.map_id' own
    have gb : ∀ (s : Shared) (H : Hp) (A : Addr) (cl : List (Str × Addr)) (fp : List Addr), Gx fns cs kb C G xq CX k (X.blk s H scope (compEnvC scope cl A X.env) fp) XF := fun s H A cl fp => g.blk b.kind
    have ob : ∀ (s : Shared) (H : Hp) (A : Addr) (cl : List (Str × Addr)) (fp : List Addr), ScOk fns cs kb { sc with names := blkNames sc.names scope, all := false, cl := cellsOf scope } (X.blk s H scope (compEnvC scope cl A X.env) fp) := fun s H A cl fp =>
      ⟨o.N, blk_names g.kind o.names, fun z => absurd z Bool.false_ne_true, o.fns, o.cs, o.kb, o.gc, fun x hx => cells_of hx⟩
    refine ⟨elt', t', it', ifs', scope, pos, rfl, mI_ok it sc t' it' h3 X Xq g o, hb, set_of h1, fun s H A cl fp => ?_, fun s H A cl fp => ?_, fun s H A cl fp => ?_⟩
    · rw [eo]; exact mG_ok t _ own _ h4 _ _ (gb s H A cl fp) (ob s H A cl fp)
    · exact mIf_ok ifs _ _ h5 _ _ (gb s H A cl fp) (ob s H A cl fp)
    · exact mE_ok elt _ _ h6 _ _ (gb s H A cl fp) (ob s H A cl fp)
  · cases h
theorem own_map {N : List Str} {own : List Nat} : (ownOf N own).map (·.2) = own := by unfold ownOf; rw [List.map_map]; exact List.map_id' own
/-- an assignment -/
theorem asg_ok {t : Tg} {a : CE} {sc : Sc} {t' a' : Expr} {pos : Pos} {X : Cx} {Xq : XW} (g : Gx fns cs kb C G xq CX k X Xq) (o : ScOk fns cs kb sc X) (h : (nstar t' && (ntup t' || ntup a' || swapB sc.names t' a') && mG t sc (List.range sc.N.length) t' && mE a sc a') = true) :
    SS X Xq (.Assign [t'] a' pos) (fun e S => (dE C G a e S).bind fun r S1 => (dA C G t r e S1).bind fun e1 S2 => .ok (.nx, e1) S2) := by
  simp only [Bool.and_eq_true] at h
  obtain ⟨⟨⟨h1, h2⟩, h3⟩, h4⟩ := h
  have hG := mG_ok t sc _ t' h3 X Xq g o
  have hE := mE_ok a sc a' h4 X Xq g o
  by_cases hn : ncomp a' = true
  · exact ss_asg hE hG (swaps_of hn) (stores_of2 o.names h2) (assign1_of h1)
  · have key : ∀ {elt : CE} {tg : Tg} {it : CE} {ifs : List CE} {own : List Nat} {gg : R → Store → Out R}, (gg = Out.ok ∨ gg = newD) → mE (.lc elt tg it ifs own) sc a' = true → SE X Xq a' (fun e S => (dE C G (.lc elt tg it ifs own) e S).bind gg) →
        SS X Xq (.Assign [t'] a' pos) (fun e S => ((dE C G (.lc elt tg it ifs own) e S).bind gg).bind fun r S1 => (dA C G t r e S1).bind fun e1 S2 => .ok (.nx, e1) S2) := fun {elt tg it ifs own gg} hgg h4 hE => by
      obtain ⟨elt', tg', it', ifs', scope, lp, rfl, f1, f2, f3, f4, f5, f6⟩ := lc_facts h4 g o
      by_cases hm : ∃ y py, t' = .Name y py
      · obtain ⟨y, py, rfl⟩ := hm
        cases t with
        | t ts => unfold mG at h3; cases h3
        | ix a b => unfold mG at h3; cases h3
        | v i =>
          unfold mG at h3
          simp only [Bool.and_eq_true, decide_eq_true_eq] at h3
          have hN : X.N[i]? = some y := by rw [← o.N]; exact h3.1.1.1
          have hsw : swapsWith (.ListComp elt' [⟨tg', it', ifs', 0⟩] scope lp) (some (.Name y py)) pos.line X.env = pure (X.env.blockKind == .function && X.env.kindOf y == some .local && py.line == lp.line && !(scope.names.any fun (n, k) => n == y && (k == .local || k == .cell))) := rfl
          cases hb : (X.env.blockKind == .function && X.env.kindOf y == some .local && py.line == lp.line && !(scope.names.any fun (n, k) => n == y && (k == .local || k == .cell))) with
          | false => exact ss_asg hE hG (show swapsWith (.ListComp elt' [⟨tg', it', ifs', 0⟩] scope lp) (some (.Name y py)) pos.line X.env = pure false by rw [hsw, hb]) rfl rfl
          | true =>
            rw [hb] at hsw
            have hl : X.env.scope.names.lookup y = some .local := by
              simp only [Bool.and_eq_true, beq_iff_eq] at hb
              exact hb.1.1.2
            have z := ss_setLc (fg := dA C G tg) (ft := dIfs C G ifs) (fe := dE C G elt) hgg g.calm g.nd hN hl hsw f1 f2 f4 f5 f6 f3
            rw [own_map] at z
            exact z
      · refine ss_asg hE hG ?_ (stores_of2 o.names h2) (assign1_of h1)
        have z : swapsWith (.ListComp elt' [⟨tg', it', ifs', 0⟩] scope lp) (some t') pos.line X.env = pure false := by
          cases t' <;> first | rfl | exact absurd ⟨_, _, rfl⟩ hm
        exact z
    cases a <;> first
      | (exfalso; unfold mE at h4; (try (split at h4)) <;> first | exact hn rfl | cases h4; done)
      | skip
    case new c =>
      unfold mE at h4
      cases c <;> first
        | (exfalso; unfold mN at h4; (try (split at h4)) <;> first | exact hn rfl | cases h4; done)
        | skip
      case lc elt tg it ifs own =>
        have h5 : mE (.lc elt tg it ifs own) sc a' = true := by
          unfold mN at h4
          unfold mE
          split at h4
          · simp only [Bool.and_eq_true, decide_true] at h4 ⊢
            obtain ⟨⟨⟨⟨⟨h1, h2⟩, h3⟩, h4⟩, h5⟩, h6⟩ := h4
            exact ⟨⟨⟨⟨⟨⟨h1, h2⟩, trivial⟩, h3⟩, h4⟩, h5⟩, h6⟩
          · cases h4
        exact key (.inr rfl) h5 hE
    case lc elt tg it ifs own =>
      have eq : (fun e S => (dE C G (.lc elt tg it ifs own) e S).bind Out.ok) = dE C G (.lc elt tg it ifs own) := by
        funext e S
        cases dE C G (.lc elt tg it ifs own) e S <;> rfl
      have z := key (gg := Out.ok) (.inl rfl) h4 (by rw [eq]; exact hE)
      have eq2 : (fun e S => ((dE C G (.lc elt tg it ifs own) e S).bind Out.ok).bind fun r S1 => (dA C G t r e S1).bind fun e1 S2 => Out.ok (Fl.nx, e1) S2) = fun e S => (dE C G (.lc elt tg it ifs own) e S).bind fun r S1 => (dA C G t r e S1).bind fun e1 S2 => Out.ok (Fl.nx, e1) S2 := by
        funext e S
        cases dE C G (.lc elt tg it ifs own) e S <;> rfl
      rw [eq2] at z
      exact z
end
end Sx
set_option Elab.async false
set_option linter.all false
set_option maxHeartbeats 4000000
/-! Sx, part O: the checked reading is sound: blocks, defs. -/
namespace Sx
open PySem PySem.Spec PyProof.Rows L2
theorem any_starB {es : List Expr} (h : es.all nstar = true) : (es.any fun | .Starred .. => true | _ => false) = false := by
  induction es with
  | nil => rfl
  | cons a l ih =>
    rw [List.all_cons, Bool.and_eq_true] at h
    rw [List.any_cons, ih h.2]
    cases a <;> first | rfl | cases h.1
theorem swap2 {x y : Str} {px py pt : Pos} {kt k2 : Nat} {pt2 : Pos} {a b : Expr} {env : PySem.Env} (hk : env.scope.kind = .function) (hx : env.scope.names.lookup x = some .local) (hy : env.scope.names.lookup y = some .local) (hp : py.line = px.line) (hne : x ≠ y)
    (hs : [a, b].all nstar = true) (h1 : [a, b].all (foldedForSure 8) = false) (h2 : [a, b].all (constantsAlone 8) = false) :
    swappedStores [.Tuple [.Name x px, .Name y py] kt pt] (.Tuple [a, b] k2 pt2) env = pure (some [x, y]) := by
  unfold swappedStores
  have e1 : env.kindOf x = some .local := hx
  have e2 : env.kindOf y = some .local := hy
  have ek := blockKind_of hk
  simp only [any_starB hs, h1, h2, ek, Expr.pos, List.head?_cons, Option.map_some, Option.getD_some, List.filterMap_cons, e1, e2, hp, beq_self_eq_true, Bool.and_self, if_true, List.filterMap_nil, List.length_cons, List.length_nil]
  have hd : ([x, y] : List Str).eraseDups = [x, y] := by
    have : (y == x) = false := by rw [beq_eq_false_iff_ne]; exact Ne.symm hne
    simp [List.eraseDups_cons, this]
  rw [hd]
  rw [if_neg (by decide), if_neg, if_neg (by simp), if_neg (by decide), if_neg (by decide)]
  intro h
  rw [List.any_eq_true] at h
  obtain ⟨u, hu, e⟩ := h
  have hu := List.all_eq_true.mp hs u hu
  cases u <;> first | (cases e; done) | (cases hu; done)
theorem swap3 {x y z : Str} {px py pz pt : Pos} {kt k2 : Nat} {pt2 : Pos} {a b c : Expr} {env : PySem.Env} (hk : env.scope.kind = .function) (hx : env.scope.names.lookup x = some .local) (hy : env.scope.names.lookup y = some .local) (hz : env.scope.names.lookup z = some .local) (hp : py.line = px.line) (hp2 : pz.line = px.line) (hne : x ≠ y) (hne2 : x ≠ z) (hne3 : y ≠ z)
    (hs : [a, b, c].all nstar = true) (h1 : [a, b, c].all (foldedForSure 8) = false) (h2 : [a, b, c].all (constantsAlone 8) = false) :
    swappedStores [.Tuple [.Name x px, .Name y py, .Name z pz] kt pt] (.Tuple [a, b, c] k2 pt2) env = pure (some [x, y, z]) := by
  unfold swappedStores
  have e1 : env.kindOf x = some .local := hx
  have e2 : env.kindOf y = some .local := hy
  have e3 : env.kindOf z = some .local := hz
  have ek := blockKind_of hk
  simp only [any_starB hs, h1, h2, ek, Expr.pos, List.head?_cons, Option.map_some, Option.getD_some, List.filterMap_cons, e1, e2, e3, hp, hp2, beq_self_eq_true, Bool.and_self, if_true, List.filterMap_nil, List.length_cons, List.length_nil]
  have hd : ([x, y, z] : List Str).eraseDups = [x, y, z] := by
    have a1 : (y == x) = false := by rw [beq_eq_false_iff_ne]; exact Ne.symm hne
    have a2 : (z == x) = false := by rw [beq_eq_false_iff_ne]; exact Ne.symm hne2
    have a3 : (z == y) = false := by rw [beq_eq_false_iff_ne]; exact Ne.symm hne3
    simp [List.eraseDups_cons, a1, a2, a3]
  rw [hd]
  rw [if_neg (by decide), if_neg, if_neg (by simp), if_neg (by decide), if_neg (by decide)]
  intro h
  rw [List.any_eq_true] at h
  obtain ⟨u, hu, e⟩ := h
  have hu := List.all_eq_true.mp hs u hu
  cases u <;> first | (cases e; done) | (cases hu; done)
section
variable {fns cs : List String} {kb : List KE} {C : Fns} {G : String → Option D} {xq : XK → XW} {CX : CXT} {k : Nat}
theorem nodup_ne {N : List Str} {i j : Nat} {x y : Str} (hN : N.Nodup) (hi : N[i]? = some x) (hj : N[j]? = some y) (h : i ≠ j) : x ≠ y := fun e => by
  subst e
  obtain ⟨h1, e1⟩ := List.getElem?_eq_some_iff.mp hi
  obtain ⟨h2, e2⟩ := List.getElem?_eq_some_iff.mp hj
  exact h ((List.getElem_inj hN).mp (e1.trans e2.symm))
theorem parB_cons {sc : Sc} {l i : Nat} {is : List Nat} {ts : List Expr} (h : parB sc l (i :: is) ts = true) : ∃ x p ts', ts = .Name x p :: ts' ∧ sc.N[i]? = some x ∧ isLo sc.names x = true ∧ p.line = l ∧ parB sc l is ts' = true := by
  unfold parB at h
  split at h
  · contradiction
  · rename_i e; cases e
    simp only [Bool.and_eq_true, decide_eq_true_eq] at h
    exact ⟨_, _, _, rfl, h.1.1.1, h.1.1.2, h.1.2, h.2⟩
  · cases h
theorem parB_nil {sc : Sc} {l : Nat} {ts : List Expr} (h : parB sc l [] ts = true) : ts = [] := by
  unfold parB at h
  split at h
  · rfl
  · rename_i e; cases e
  · cases h
theorem par_ok {is : List Nat} {cs' : List CE} {sc : Sc} {ts es : List Expr} {kt k2 : Nat} {pt pt2 pos : Pos} {X : Cx} {Xq : XW} (g : Gx fns cs kb C G xq CX k X Xq) (o : ScOk fns cs kb sc X)
    (h : ((decide (is.length = 2) || decide (is.length = 3)) && decide (es.length = is.length) && decide is.Nodup && parB sc (lineOf ts) is ts && mL cs' sc es && !es.all (foldedForSure 8) && !es.all (constantsAlone 8)) = true) :
    SS X Xq (.Assign [.Tuple ts kt pt] (.Tuple es k2 pt2) pos) (fun e S => (dL C G cs' e S).bind fun rs S1 => (lift (setAll is rs e) S1).bind fun e1 S2 => .ok (.nx, e1) S2) := by
  simp only [Bool.and_eq_true, decide_eq_true_eq, Bool.or_eq_true, Bool.not_eq_true'] at h
  obtain ⟨⟨⟨⟨⟨⟨h1, h2⟩, h3⟩, h4⟩, h5⟩, h6⟩, h7⟩ := h
  have ha := mL_ok cs' sc es h5 X Xq g o
  have hs := mL_star h5
  rcases h1 with h1 | h1
  · obtain ⟨i, j, rfl⟩ := len2_of h1
    obtain ⟨a, b, rfl⟩ := len2_of (h2.trans h1)
    obtain ⟨x, px, ts1, rfl, e1, e2, e3, h4⟩ := parB_cons h4
    obtain ⟨y, py, ts2, rfl, e4, e5, e6, h4⟩ := parB_cons h4
    have := parB_nil h4
    subst this
    have hl : lineOf (.Name x px :: [.Name y py]) = px.line := rfl
    rw [o.N] at e1 e4
    rw [← o.names] at e2 e5
    have hij : i ≠ j := by simpa using h3
    exact ss_par2 g.calm g.nd e1 e4 hij (lo_of e2) (lo_of e5) ha (swap2 g.kind (lo_of e2) (lo_of e5) e6 (nodup_ne g.nd e1 e4 hij) hs h6 h7)
  · obtain ⟨i, j, l, rfl⟩ := len3_of h1
    obtain ⟨a, b, c, rfl⟩ := len3_of (h2.trans h1)
    obtain ⟨x, px, ts1, rfl, e1, e2, e3, h4⟩ := parB_cons h4
    obtain ⟨y, py, ts2, rfl, e4, e5, e6, h4⟩ := parB_cons h4
    obtain ⟨z, pz, ts3, rfl, e7, e8, e9, h4⟩ := parB_cons h4
    have := parB_nil h4
    subst this
    rw [o.N] at e1 e4 e7
    rw [← o.names] at e2 e5 e8
    have hij : i ≠ j ∧ i ≠ l ∧ j ≠ l := by
      simp only [List.nodup_cons, List.mem_cons, List.not_mem_nil, or_false, not_or] at h3
      exact ⟨h3.1.1, h3.1.2, h3.2.1⟩
    exact ss_par3 g.calm g.nd e1 e4 e7 hij.1 hij.2.1 hij.2.2 (lo_of e2) (lo_of e5) (lo_of e8) ha (swap3 g.kind (lo_of e2) (lo_of e5) (lo_of e8) e6 e9 (nodup_ne g.nd e1 e4 hij.1) (nodup_ne g.nd e1 e7 hij.2.1) (nodup_ne g.nd e4 e7 hij.2.2) hs h6 h7)
theorem par_ok2 {is : List Nat} {cs' : List CE} {sc : Sc} {ts es : List Expr} {kt k2 : Nat} {pt pt2 pos : Pos} {X : Cx} {Xq : XW} (g : Gx fns cs kb C G xq CX k X Xq) (o : ScOk fns cs kb sc X)
    (h : (decide (es.length = 2) && swapB sc.names (.Tuple ts kt pt) (.Tuple es k2 pt2) && twoB sc is ts && mL cs' sc es) = true) :
    SS X Xq (.Assign [.Tuple ts kt pt] (.Tuple es k2 pt2) pos) (fun e S => (dL C G cs' e S).bind fun rs S1 => (lift (setAll is rs e) S1).bind fun e1 S2 => .ok (.nx, e1) S2) := by
  simp only [Bool.and_eq_true, decide_eq_true_eq] at h
  obtain ⟨⟨⟨h1, h2⟩, h3⟩, h4⟩ := h
  have ha := mL_ok cs' sc es h4 X Xq g o
  obtain ⟨a, b, rfl⟩ := len2_of h1
  have hw : swappedStores [.Tuple ts kt pt] (.Tuple [a, b] k2 pt2) X.env = pure none := stores_of2 o.names (by rw [h2]; simp)
  unfold twoB at h3
  split at h3
  · rename_i i j x px y py
    simp only [Bool.and_eq_true, decide_eq_true_eq, Bool.or_eq_true] at h3
    obtain ⟨⟨hij, ⟨x1, x2⟩, x3⟩, ⟨y1, y2⟩, y3⟩ := h3
    have fn : ∀ z : Str, ((sc.all = true ∨ isLo sc.names z = true) ∨ sc.cl.contains z = true) → X.fn z = true ∨ X.env.scope.names.lookup z = some .local := by
      intro z hz
      rcases hz with (q | q) | q
      · exact .inl (o.all q z)
      · exact .inr (by rw [o.names]; exact lo_of q)
      · exact .inl (o.cl z (by simpa using q))
    exact ss_tup2 g.calm g.nd (by rw [← o.N]; exact x1) (by rw [← o.N]; exact y1) hij (loc_of (by rw [o.names]; exact x2)) (loc_of (by rw [o.names]; exact y2)) (fn x x3) (fn y y3) ha hw
  · cases h3
theorem many_pgs {X : Cx} {Xq : XW} {sc : Sc} (g : Gx fns cs kb C G xq CX k X Xq) (o : ScOk fns cs kb sc X) : ∀ {is : List Nat} {ts : List Expr}, manyB sc is ts = true → PGs X ts (gNames is) ∧ (assignEach ts X.env).length = is.length ∧ (assignEach ts X.env).findIdx? (·.1) = none
  | [], [], _ => ⟨pgs_nil, rfl, rfl⟩
  | [], _ :: _, h => by unfold manyB at h; cases h
  | _ :: _, [], h => by unfold manyB at h; cases h
  | i :: is, t :: ts, h => by
    unfold manyB at h
    split at h
    · rename_i e _; cases e
    · rename_i i' is' x px ts' e1 e2
      cases e1; cases e2
      simp only [Bool.and_eq_true, decide_eq_true_eq, Bool.or_eq_true] at h
      obtain ⟨⟨⟨h1, h2⟩, h3⟩, h4⟩ := h
      obtain ⟨i1, i2, i3⟩ := many_pgs g o h4
      have fn : X.fn x = true ∨ X.env.scope.names.lookup x = some .local := by
        rcases h3 with (q | q) | q
        · exact .inl (o.all q x)
        · exact .inr (by rw [o.names]; exact lo_of q)
        · exact .inl (o.cl x (by simpa using q))
      refine ⟨pgs_cons (pg_name g.nd (by rw [← o.N]; exact h1) (loc_of (by rw [o.names]; exact h2)) fn) i1, ?_, ?_⟩
      · show (assignEach ts X.env).length + 1 = is.length + 1
        rw [i2]
      · show ((false, assign (.Name x px) X.env) :: assignEach ts X.env).findIdx? (·.1) = none
        rw [List.findIdx?_cons, i3]
        rfl
    · cases h
theorem swap_many {ts es : List Expr} {kt k2 : Nat} {pt pt2 : Pos} {env : PySem.Env} (h : 4 ≤ ts.length) : swappedStores [.Tuple ts kt pt] (.Tuple es k2 pt2) env = pure none := by
  unfold swappedStores
  have h1 : (ts.length == 2) = false := by rw [beq_eq_false_iff_ne]; omega
  have h2 : (ts.length == 3) = false := by rw [beq_eq_false_iff_ne]; omega
  simp only [h1, h2, Bool.or_self, Bool.not_false, Bool.true_or, if_true]
theorem par_okN {is : List Nat} {cs' : List CE} {sc : Sc} {ts es : List Expr} {kt k2 : Nat} {pt pt2 pos : Pos} {X : Cx} {Xq : XW} (g : Gx fns cs kb C G xq CX k X Xq) (o : ScOk fns cs kb sc X)
    (h : (decide (4 ≤ is.length) && decide (ts.length = is.length) && decide (es.length = is.length) && decide (es.length ≤ 100) && manyB sc is ts && mL cs' sc es) = true) :
    SS X Xq (.Assign [.Tuple ts kt pt] (.Tuple es k2 pt2) pos) (fun e S => (dL C G cs' e S).bind fun rs S1 => (lift (setAll is rs e) S1).bind fun e1 S2 => .ok (.nx, e1) S2) := by
  simp only [Bool.and_eq_true, decide_eq_true_eq] at h
  obtain ⟨⟨⟨⟨⟨h1, h2⟩, h3⟩, h4⟩, h5⟩, h6⟩ := h
  obtain ⟨p1, p2, p3⟩ := many_pgs g o h5
  exact ss_tupN g.calm p1 p2 p3 h4 h3 (mL_ok cs' sc es h6 X Xq g o) (swap_many (by omega))
mutual
theorem mS_ok : ∀ (c : CS) (sc : Sc) (s : Stmt), mS c sc s = true → ∀ X Xq, PassesOwn (model X.prog X.w) X.A X.env X.xe → Gx fns cs kb C G xq CX k X Xq → ScOk fns cs kb sc X → SS X Xq s (dS C G c)
  | .asg t a, sc, s, h, X, Xq, hp, g, o => by
    unfold mS at h; split at h
    · exact asg_ok g o h
    · cases h
  | .par is cs', sc, s, h, X, Xq, hp, g, o => by
    unfold mS at h; split at h
    · rw [Bool.or_eq_true, Bool.or_eq_true] at h
      rcases h with (h | h) | h
      · exact par_ok g o h
      · exact par_ok2 g o h
      · exact par_okN g o h
    · cases h
  | .ex a, sc, s, h, X, Xq, hp, g, o => by
    unfold mS at h; split at h
    · rw [Bool.and_eq_true] at h
      exact ss_expr (mE_ok a sc _ h.2 X Xq g o) (swaps_of h.1)
    · cases h
  | .ret a, sc, s, h, X, Xq, hp, g, o => by
    unfold mS at h; split at h
    · exact ss_ret (mE_ok a sc _ h X Xq g o)
    · cases h
  | .ret0, sc, s, h, X, Xq, hp, g, o => by
    unfold mS at h; split at h
    · exact ss_ret0
    · cases h
  | .ite c a b, sc, s, h, X, Xq, hp, g, o => by
    unfold mS at h; split at h
    · simp only [Bool.and_eq_true] at h
      exact ss_if (mT_ok c sc _ h.1.1 X Xq g o) (mSB_ok a sc _ h.1.2 X Xq hp g o) (mSB_ok b sc _ h.2 X Xq hp g o)
    · cases h
  | .for_ t it body, sc, s, h, X, Xq, hp, g, o => by
    unfold mS at h; split at h
    · simp only [Bool.and_eq_true] at h
      obtain ⟨⟨⟨h1, h2⟩, h3⟩, h4⟩ := h
      exact ss_for hp g.calm (mI_ok it sc _ _ h2 X Xq g o) (mG_ok t sc _ _ h3 X Xq g o) (mSB_ok body sc _ h4 X Xq hp g o) (set_of h1)
    · cases h
  | .while_ c body, sc, s, h, X, Xq, hp, g, o => by
    unfold mS at h; split at h
    · rw [Bool.and_eq_true] at h
      exact ss_while hp (mT_ok c sc _ h.1 X Xq g o) (mSB_ok body sc _ h.2 X Xq hp g o)
    · cases h
  | .pass, sc, s, h, X, Xq, hp, g, o => by
    unfold mS at h; split at h
    · exact ss_pass
    · exact ss_doc
    · cases h
  | .brk, sc, s, h, X, Xq, hp, g, o => by
    unfold mS at h; split at h
    · exact ss_break
    · cases h
  | .cnt, sc, s, h, X, Xq, hp, g, o => by
    unfold mS at h; split at h
    · exact ss_cont
    · cases h
  | .never, sc, s, h, X, Xq, hp, g, o => ss_never
  | .fz _, sc, s, h, X, Xq, hp, g, o => by unfold mS at h; cases h
theorem mSB_ok : ∀ (c : List CS) (sc : Sc) (s : List Stmt), mSB c sc s = true → ∀ X Xq, PassesOwn (model X.prog X.w) X.A X.env X.xe → Gx fns cs kb C G xq CX k X Xq → ScOk fns cs kb sc X → SSs X Xq s (dB C G c)
  | [], sc, s, h, X, Xq, hp, g, o => by
    unfold mSB at h; split at h
    · exact ss_nil
    · cases h
  | c :: cs', sc, s, h, X, Xq, hp, g, o => by
    unfold mSB at h; split at h
    · exact ss_fz (mSB_ok cs' sc s h X Xq hp g o)
    · split at h
      · rw [Bool.and_eq_true] at h
        exact ss_cons (mS_ok c sc _ h.1 X Xq hp g o) (mSB_ok cs' sc _ h.2 X Xq hp g o)
      · cases h
end
end
end Sx
set_option Elab.async false
set_option linter.all false
set_option maxRecDepth 100000
set_option maxHeartbeats 4000000
/-! Sx, part P: the defs of a program, the law's end. -/
namespace Sx
open PySem PySem.Spec PyProof.Rows L2

/-- one call from the top: the law's -/
theorem end_call {P : Program} {w : World} {K : PySem.W.Frag} {mg mb : Str → Option Value} {CX : CXT} {k : Nat} {fa a : Addr} {fd : FuncData} {x : Str} {sp : Sp} {s1 : Shared} {us : List Value} {ns : List Int}
    (kin : K.In s1.heap) (gns : s1.heap.Ns mainGlobals mg) (bns : s1.heap.Ns builtinsNs mb) (bbo : ∀ y : Str, y ≠ "__name__" → mb y = bootBuiltins y) (nlm : s1.heap.NoLimit) (gen0 : s1.gens = #[])
    (scr : s1.heap.get? a = some { cls := .type "list", data := .seq us.toArray }) (are : IntsAre us ns) (few : ns.length ≤ sizeLine) (room : Room k callerA)
    (fin : ∀ base : Heap, K.In base → base.Ns mainGlobals mg → FnG P w K mg base CX k fa fd [x] sp) (bind1 : ∀ (s : Shared) (u : Value), BindsTo s fd ⟨[u], []⟩ [(x, u)])
    (promise : ∀ H : Hp, Only H → SqL K H a (ns.map V.int) → sp [.ref a] H (fun v _ => v = .bl true) fun _ _ _ => False)
    (noexc : ∀ H e s', CX [] H s1 (fun _ _ _ => False) e s' → False) :
    codeAny (model P w) callerA (.call (.ref fa) ⟨[.ref a], []⟩) (fun r s' => r = .ok (.ret (.bool true)) ∧ OldK s1.heap s'.heap ∧ s'.os = s1.os ∧ AllBare s'.gens) s1 := by
  have rel := vals_ints are
  have len := are.length
  have main : ∀ H : Hp, Only H → SqL K H a (ns.map V.int) → HOk P w H s1.heap → (∀ b, H b ≠ none → b = a) → (H a ≠ none → K.lookup a = none) →
      codeAny (model P w) callerA (.call (.ref fa) ⟨[.ref a], []⟩) (fun r s' => r = .ok (.ret (.bool true)) ∧ OldK s1.heap s'.heap ∧ s'.os = s1.os ∧ AllBare s'.gens) s1 := by
    intro H only sq hok one nk
    have hid : ∀ {b : Addr} {o : Obj}, s1.heap.get? b = some o → H b = none → (hidT s1.heap H).get? b = some o := fun h1 h2 => hidT_get h1 h2
    have isA : ∀ {b : Addr} {u : HO}, H b = some u → b = a := fun h => one _ (by rw [h]; exact Option.some_ne_none _)
    have dictFree : ∀ {b : Addr} {o : Obj} {es : Array DictEntry} {ep : Nat}, s1.heap.get? b = some o → o.data = .dict es ep → H b = none := fun {b o es ep} h1 h2 => by
      cases hb : H b with
      | none => rfl
      | some u =>
        have e := isA hb
        subst e
        rw [scr] at h1
        cases h1
        exact absurd (show Data.seq us.toArray _ = Data.dict es ep from h2) (by intro z; cases z)
    have nsOf : ∀ {b : Addr} {m : Str → Option Value}, s1.heap.Ns b m → (hidT s1.heap H).Ns b m := fun {b m} h => by
      obtain ⟨o, es, ep, h1, h2, h3⟩ := h
      exact ⟨o, es, ep, hid h1 (dictFree h1 h2), h2, h3⟩
    have kbase : K.In (hidT s1.heap H) := fun b o h => hid (kin b o h) (by
      cases hb : H b with
      | none => rfl
      | some u =>
        have e := isA hb
        subst e
        have := nk (by rw [hb]; exact Option.some_ne_none _)
        rw [this] at h; cases h)
    have md : Mod K mg (hidT s1.heap H) := by
      refine ⟨kbase, nsOf gns, ⟨mb, nsOf bns, bbo⟩, ?_⟩
      obtain ⟨mc, h1, h2⟩ := nlm
      exact ⟨mc, nsOf h1, h2⟩
    have noneIn : ∀ b : Addr, b ∉ ([] : List Addr) := fun b h => by cases h
    have env : Env0 P w K mg (hidT s1.heap H) callerA [] s1 H := ⟨rfl, md, fun b o h => of_hidT h, Nat.le_of_eq (hidT_size _ _), trivial, fun b h => (noneIn b h).elim, hok, .of_eq gen0⟩
    have go := (fin _ kbase (nsOf gns)).go callerA [] s1 H ⟨[.ref a], []⟩ [.ref a] [.ref a] (fun v _ => v = .bl true) (fun _ _ _ => False) room rfl env (bind1 s1 (.ref a)) (.cons rfl .nil) (promise H only sq)
    refine codeAny_mono go fun r s' h => ?_
    cases r with
    | error e => exact (noexc H e s' h).elim
    | ok fl => cases fl with
      | next => exact False.elim h
      | brk => exact False.elim h
      | cont => exact False.elim h
      | ret u =>
        obtain ⟨v, H2, os2, bare2, un, hok2, rv, ev⟩ := h
        have ev2 : v = .bl true := ev
        subst ev2
        have eu : u = Value.bool true := rv
        subst eu
        refine ⟨rfl, OldK.of_keep fun b o h1 => ?_, os2, bare2⟩
        cases hb : H b with
        | none => exact un.keep b o h1 hb (noneIn b) (noneIn b)
        | some u =>
          rcases only b with z | ⟨ob, xs, z⟩
          · rw [hb] at z; cases z
          · obtain ⟨g1, _⟩ := hok b _ z
            obtain ⟨g2, _⟩ := hok2 b _ (un.frzs b ob _ z)
            rw [h1] at g1
            cases g1
            exact g2
  cases hk : K.lookup a with
  | some o =>
    have h := kin a o hk
    rw [scr] at h
    cases h
    refine main (fun _ => none) (fun _ => .inl rfl) ?_ (fun b u z => nomatch z) (fun b z => absurd rfl z) (fun z => absurd rfl z)
    exact .inr ⟨_, us.toArray, _, hk, rfl, rfl, rfl, by rw [List.size_toArray, len]; exact few, by simpa using rel⟩
  | none =>
    let H0 : Hp := fun b => if b = a then some (.frz { cls := .type "list", data := .seq us.toArray } (.lst (ns.map V.int))) else none
    have at_ : H0 a = some (.frz { cls := .type "list", data := .seq us.toArray } (.lst (ns.map V.int))) := if_pos rfl
    have off : ∀ b, b ≠ a → H0 b = none := fun b h => if_neg h
    refine main H0 (fun b => ?_) (.inl (.inr ⟨_, at_⟩)) (fun b u z => ?_) (fun b z => ?_) fun _ => hk
    · by_cases e : b = a
      · subst e; exact .inr ⟨_, _, at_⟩
      · exact .inl (off b e)
    · by_cases e : b = a
      · subst e
        rw [at_] at z
        cases z
        exact ⟨scr, by rw [List.length_map]; exact few, us, _, rel, scr⟩
      · rw [off b e] at z; cases z
    · by_cases e : b = a
      · exact e
      · exact absurd (off b e) z
/-- the goal that a head leaves -/
theorem walk_end {l : PySem.W.OpenLaw} {n k : Nat} {q : Program} {loose : List Str} {XP : (Str → Option Value) → Heap → Prop} {YP : World → Heap → Prop} {d : DefRec} {CX : CXT} {x : Str}
    (hn : l.most = some n) (hn2 : n ≤ sizeLine) (hdf : d.params.defaults = []) (hr : Room k callerA)
    (F : ∀ (w : World) (mg : Str → Option Value) (fa : Addr) (h : Heap), YP w h → h.Ns mainGlobals mg → mg d.name = some (.ref fa) →
      ∃ (K : PySem.W.Frag) (fd : FuncData) (sp : Sp), K.In h ∧ (∀ (s : Shared) (u : Value), BindsTo s fd ⟨[u], []⟩ [(x, u)]) ∧
        (∀ (H : Hp) (a : Addr) (ns : List Int), ns.length ≤ n → (∀ z ∈ ns, Builtin.Int.intBits z ≤ 1048576) → Only H → SqL K H a (ns.map V.int) → sp [.ref a] H (fun v _ => v = .bl true) fun _ _ _ => False) ∧
        ∀ base : Heap, K.In base → base.Ns mainGlobals mg → FnG l.prog w K mg base CX k fa fd [x] sp)
    (hCX : ∀ (H : Hp) (s : Shared) (e : Value) (s' : Shared), CX [] H s (fun _ _ _ => False) e s' → False) :
    PySem.W.WalkO q loose XP YP l.row.toRowW d [] (fun f vs => PySem.call f vs) := by
  refine Att.attach_callB hn hdf fun w s0 s1 mg mb fa o pm cd doc a vs ns G Y ho hd hcd hmg hobj hints hlen hbits hg => ?_
  obtain ⟨K, fd, sp, KX, hb, hsp, hF⟩ := F w mg fa _ Y G.T.g hmg
  exact end_call KX G.T.g G.T.b G.T.builtins G.T.nolimit hg hobj hints (Nat.le_trans hlen hn2) hr hF hb (fun H hO hS => hsp H a ns hlen hbits hO hS) (fun H e s' => hCX H s1 e s')
/-! ### the table of defs -/
section
variable {fns cs : List String} {kb : List KE} {gc : Bool} {Pf : String → Option Fn} {G : String → Option D} {xq : XK → XW} {CX : CXT} {P : Program} {w : World} {K : PySem.W.Frag} {mg : Str → Option Value} {base : Heap}
/-- a def of the program and its reading -/
structure DefS (fns cs : List String) (kb : List KE) (gc : Bool) (K : PySem.W.Frag) (fn : Fn) (a : Addr) (fd : FuncData) (ps : List Str) : Prop where
  ex : ∃ (N : List Str) (name qual : Str) (params : Arguments) (body : List Stmt) (scope : Scope) (dvs : List V), FunD K name qual params body scope dvs [] a fd ∧ FnScope N ps scope ∧ N.length = fn.ns ∧ ps.length = fn.np ∧ mSB fn.body ⟨N, scope.names, true, fns, cs, kb, gc, []⟩ body = true
theorem runF_len {j : Nat} {f : String} {fn : Fn} (hf : Pf f = some fn) : ∀ rs S, runF Pf G j f rs S ≠ .bad → rs.length = fn.np := by
  intro rs S h
  cases j with
  | zero => exact absurd rfl h
  | succ j =>
    unfold runF at h
    rw [hf] at h
    dsimp only at h
    split at h
    · assumption
    · exact absurd rfl h
theorem guards_deeper {A : Around} {env : PySem.Env} (h : A.guards = some []) : (A.deeper env).guards = some [] := by
  first
    | exact h
    | (unfold Around.deeper; exact h)
theorem start_rep {K : PySem.W.Frag} {H : Hp} {S : Store} {F : Nat → Addr} {N : List Str} {vs : List V} {rs : List R} {m : Nat} (h : RepAll K H S F vs rs) (hm : N.length - vs.length = m) : RepE K H S F (rs.map some ++ List.replicate m none) (L2.start N vs) := by
  unfold L2.start
  rw [hm]
  refine ⟨by simp [h.length], fun i r hr => ?_⟩
  by_cases hi : i < rs.length
  · rw [List.getElem?_append_left (by simpa using hi), List.getElem?_map] at hr
    cases e : rs[i]? with
    | none => rw [e] at hr; cases hr
    | some q =>
      rw [e] at hr
      cases hr
      obtain ⟨v, e1, e2⟩ := h.get e
      refine ⟨v, ?_, e2⟩
      rw [List.getElem?_append_left (by rw [List.length_map, h.length]; exact hi), List.getElem?_map, e1]
      rfl
  · rw [List.getElem?_append_right (by simpa using Nat.not_lt.mp hi)] at hr
    have := List.mem_of_getElem? hr
    rw [List.mem_replicate] at this
    cases this.2
/-- the result of a body, handed back -/
theorem back_ok {K : PySem.W.Frag} {Xq : XW} {H : Hp} {S : Store} {F : Nat → Addr} {o : Out (Fl × Ev)} {Q : VK} (h : Post K Xq H S F (back S.length o) (fun r S' F' H' => ∀ v, RepR K H' S' F' v r → Q v H')) :
    Post K Xq H S F o (EndOk K { nx := fun _ H' => Q .non H', rt := Q }) := by
  cases o with
  | bad => exact h
  | exc x S1 => exact h
  | ok p S1 =>
    obtain ⟨fl, e1⟩ := p
    intro H1 F1 w1 l1
    cases fl with
    | bk => exact h.elim
    | ct => exact h.elim
    | nx =>
      obtain ⟨w2, _⟩ := w1.trunc S.length
      have h : Post K Xq H S F (.ok (.d .none) (S1.take S.length)) (fun r S' F' H' => ∀ v, RepR K H' S' F' v r → Q v H') := h
      exact fun st _ => h.at_ w2 (l1.trunc (Nat.le_refl _)) .non .non
    | rt r =>
      cases r with
      | d x =>
        obtain ⟨w2, sub⟩ := w1.trunc S.length
        have h : Post K Xq H S F (.ok (.d x) (S1.take S.length)) (fun r S' F' H' => ∀ v, RepR K H' S' F' v r → Q v H') := h
        intro v hv
        exact h.at_ w2 (l1.trunc (Nat.le_refl _)) v (Da.mono (fun _ _ _ e => e) (fun a z => .inl (sub a z)) _ _ hv)
      | ref i =>
        obtain ⟨w2, sub⟩ := w1.trunc (max S.length (i + 1))
        have h : Post K Xq H S F (.ok (.ref i) (S1.take (max S.length (i + 1)))) (fun r S' F' H' => ∀ v, RepR K H' S' F' v r → Q v H') := h
        intro v hv
        obtain ⟨h1, h2⟩ := hv
        exact h.at_ w2 (l1.trunc (Nat.le_max_left _ _)) v ⟨by rw [List.length_take]; omega, h2⟩
/-- what every def's body stands in -/
structure Base (fns cs : List String) (kb : List KE) (gc : Bool) (G : String → Option D) (CX : CXT) (w : World) (K : PySem.W.Frag) (mg : Str → Option Value) : Prop where
  gcd : gc = true → mg (Str.ofString "gcd") = some (.builtin "math.gcd")
  lit : LitOk K w
  blt : ∀ b, b ∈ biNames → mg (Str.ofString b) = none
  glob : ∀ x, cs.contains x = true → ∃ y v u, G x = some y ∧ mg (Str.ofString x) = some u ∧ RelV v u ∧ ∀ H A, Da K H A v y
/-- how exceptions are told -/
structure ExcW (xq : XK → XW) (CX : CXT) : Prop where
  noX : ∀ outer H s e s', ¬ CX outer H s (fun _ _ _ => False) e s'
  pass : ∀ (P : Program) (w : World) (K : PySem.W.Frag) (mg : Str → Option Value) (base : Heap) (N : List Str) (qual : Str) (scope : Scope) (f : Addr) (cd : Value) (A : Around) (outer : List PySem.Env) (s : Shared) (H : Hp) (E : XK), Passes CX (cxOf CX P w K mg base N qual scope f cd A outer s H E) E
theorem fn_level {j : Nat} {f : String} {fn : Fn} {a : Addr} {fd : FuncData} {ps : List Str} (hX : ExcW xq CX) (hB : Base fns cs kb gc G CX w K mg) (hf : Pf f = some fn) (dfn : DefS fns cs kb gc K fn a fd ps)
    (tab : ∀ f, fns.contains f = true → FnT xq P w K mg base CX j f (runF Pf G j f)) (tabk : ∀ q, kb.contains q = true → FnK xq P w K mg base CX j q (runF Pf G j q.f)) :
    FnG P w K mg base CX (j + 1) a fd ps (SpK xq K ps.length (runF Pf G (j + 1) f)) := by
  obtain ⟨N, name, qual, params, body, scope, dvs, FD, FS, hns, hnp, hm⟩ := dfn.ex
  obtain ⟨oc, od, dV, kV, doc, pm, an, cdv, ct, osl, rfl, lk, hcd, _, _⟩ := FD.ex
  refine fnG_of lk hcd FS (fun vs H Q E h => h.1) fun A outer s H vs Q E hr hgu hsp => ?_
  obtain ⟨hl, rs, S, F, wk, rv, p⟩ := hsp
  have gx : Gx fns cs kb (runF Pf G j) G xq CX j (cxOf CX P w K mg base N qual scope a cdv A outer s H E) (xq E) :=
    ⟨rfl, FS.nd, by have := hr.un; show (A.deeper _).units + 100 < cLine; omega, guards_deeper hgu, hr, FS.kind, hB.lit, tab, tabk, hB.blt, hB.glob, hX.noX, E, hX.pass _ _ _ _ _ _ _ _ _ _ _ _ _ _ _, fun _ _ _ _ h => h⟩
  have so : ScOk fns cs kb ⟨N, scope.names, true, fns, cs, kb, gc, []⟩ (cxOf CX P w K mg base N qual scope a cdv A outer s H E) := ⟨rfl, rfl, fun _ _ => rfl, rfl, rfl, rfl, hB.gcd, fun _ h => by cases h⟩
  have own : PassesOwn (model P w) (cxOf CX P w K mg base N qual scope a cdv A outer s H E).A (cxOf CX P w K mg base N qual scope a cdv A outer s H E).env (cxOf CX P w K mg base N qual scope a cdv A outer s H E).xe :=
    passes_of (X := cxOf CX P w K mg base N qual scope a cdv A outer s H E) (K := fun e s' => CX outer H s E e s') (E₁ := fun e s' => CX outer H s E e s') rfl
  refine ⟨_, mSB_ok fn.body _ body hm _ (xq E) own gx so, ?_⟩
  have hrl : rs.length = fn.np := by rw [← rv.length, hl, hnp]
  refine ⟨rs.map some ++ List.replicate (fn.ns - fn.np) none, S, F, wk, start_rep rv (by rw [hns, hl, hnp]), back_ok ?_⟩
  unfold runF at p
  rw [hf] at p
  dsimp only at p
  rw [if_pos hrl] at p
  exact p
/-- the facts that a head gives of every def -/
structure Tabs (fns cs : List String) (kb : List KE) (gc : Bool) (Pf : String → Option Fn) (K : PySem.W.Frag) (mg : Str → Option Value) : Prop where
  fn : ∀ f, fns.contains f = true → ∃ fn a fd ps, Pf f = some fn ∧ mg (Str.ofString f) = some (.ref a) ∧ DefS fns cs kb gc K fn a fd ps ∧ Binds K fd ps []
  kb : ∀ q, kb.contains q = true → ∃ fn a fd ps, Pf q.f = some fn ∧ mg (Str.ofString q.f) = some (.ref a) ∧ DefS fns cs kb gc K fn a fd ps ∧
    ∀ (s : Shared) (us ws : List Value), K.In s.heap → us.length = q.n → ws.length = q.kns.length → ∃ bs : List Value, BindsTo s fd ⟨us, (q.kns.map Str.ofString).zip ws⟩ (ps.zip bs) ∧ ∀ vs zs : List V, Vals vs us → Vals zs ws → Vals (q.pm.map fun i => (vs ++ zs ++ q.dv.map V.int).getD i .non) bs
theorem DefS.kp {fn : Fn} {a : Addr} {fd : FuncData} {ps : List Str} (d : DefS fns cs kb gc K fn a fd ps) : PySem.W.keepIn K (.ref a) = true := let ⟨_, _, _, _, _, _, _, F, _⟩ := d.ex; F.kp
theorem DefS.np {fn : Fn} {a : Addr} {fd : FuncData} {ps : List Str} (d : DefS fns cs kb gc K fn a fd ps) : ps.length = fn.np := let ⟨_, _, _, _, _, _, _, _, _, _, h, _⟩ := d.ex; h
theorem levels (hX : ExcW xq CX) (hB : Base fns cs kb gc G CX w K mg) (T : Tabs fns cs kb gc Pf K mg) : ∀ j : Nat,
    (∀ f, fns.contains f = true → FnT xq P w K mg base CX j f (runF Pf G j f)) ∧ (∀ q, kb.contains q = true → FnK xq P w K mg base CX j q (runF Pf G j q.f)) ∧
    ∀ f fn a fd ps, Pf f = some fn → DefS fns cs kb gc K fn a fd ps → FnG P w K mg base CX j a fd ps (SpK xq K ps.length (runF Pf G j f)) := by
  intro j
  have step : (∀ f fn a fd ps, Pf f = some fn → DefS fns cs kb gc K fn a fd ps → FnG P w K mg base CX j a fd ps (SpK xq K ps.length (runF Pf G j f))) →
      (∀ f, fns.contains f = true → FnT xq P w K mg base CX j f (runF Pf G j f)) ∧ (∀ q, kb.contains q = true → FnK xq P w K mg base CX j q (runF Pf G j q.f)) := fun h => by
    refine ⟨fun f hf => ?_, fun q hq => ?_⟩
    · obtain ⟨fn, a, fd, ps, e1, e2, d, b⟩ := T.fn f hf
      exact ⟨a, fd, ps, e2, d.kp, b, h f fn a fd ps e1 d, by rw [d.np]; exact runF_len e1⟩
    · obtain ⟨fn, a, fd, ps, e1, e2, d, b⟩ := T.kb q hq
      exact ⟨a, fd, ps, e2, d.kp, h q.f fn a fd ps e1 d, by rw [d.np]; exact runF_len e1, b⟩
  have all : ∀ f fn a fd ps, Pf f = some fn → DefS fns cs kb gc K fn a fd ps → FnG P w K mg base CX j a fd ps (SpK xq K ps.length (runF Pf G j f)) := by
    induction j with
    | zero =>
      intro f fn a fd ps hf d
      refine ⟨fun vs H Q E h => h.1, fun A outer s H args us vs Q E hr hg e0 hb r h => ?_⟩
      obtain ⟨_, rs, S, F, _, _, p⟩ := h
      exact p.elim
    | succ j ih =>
      intro f fn a fd ps hf d
      have ih' := ih (fun h => by
        refine ⟨fun f hf => ?_, fun q hq => ?_⟩
        · obtain ⟨fn, a, fd, ps, e1, e2, d, b⟩ := T.fn f hf
          exact ⟨a, fd, ps, e2, d.kp, b, h f fn a fd ps e1 d, by rw [d.np]; exact runF_len e1⟩
        · obtain ⟨fn, a, fd, ps, e1, e2, d, b⟩ := T.kb q hq
          exact ⟨a, fd, ps, e2, d.kp, h q.f fn a fd ps e1 d, by rw [d.np]; exact runF_len e1, b⟩)
      have t : (∀ f, fns.contains f = true → FnT xq P w K mg base CX j f (runF Pf G j f)) ∧ (∀ q, kb.contains q = true → FnK xq P w K mg base CX j q (runF Pf G j q.f)) := by
        refine ⟨fun f hf => ?_, fun q hq => ?_⟩
        · obtain ⟨fn, a, fd, ps, e1, e2, d, b⟩ := T.fn f hf
          exact ⟨a, fd, ps, e2, d.kp, b, ih' f fn a fd ps e1 d, by rw [d.np]; exact runF_len e1⟩
        · obtain ⟨fn, a, fd, ps, e1, e2, d, b⟩ := T.kb q hq
          exact ⟨a, fd, ps, e2, d.kp, ih' q.f fn a fd ps e1 d, by rw [d.np]; exact runF_len e1, b⟩
      exact fn_level hX hB hf d t.1 t.2
  exact ⟨(step all).1, (step all).2, all⟩
end
end Sx
set_option Elab.async false
set_option linter.all false
set_option maxRecDepth 100000
set_option maxHeartbeats 4000000
/-! Sx, part Q: a program's table of defs from the head's facts. -/
namespace Sx
open PySem PySem.Spec PyProof.Rows L2
/-! ### binding -/
theorem lookup_zip {ps : List Str} {us : List Value} (h : us.length = ps.length) {x : Str} (hx : x ∈ ps) : ((ps.zip us).lookup x).isSome = true := by
  induction ps generalizing us with
  | nil => cases hx
  | cons p ps ih =>
    cases us with
    | nil => cases h
    | cons u us =>
      rw [List.zip_cons_cons, List.lookup_cons]
      by_cases e : x == p
      · rw [e]; rfl
      · have e' : (x == p) = false := by simpa using e
        rw [e']
        rcases List.mem_cons.mp hx with z | z
        · subst z; simp at e'
        · exact ih (by simpa using h) z
theorem filterMap_zip : ∀ {ps : List Str} {us : List Value}, ps.Nodup → us.length = ps.length → ps.filterMap (fun n => ((ps.zip us).lookup n).map fun v => (n, v)) = ps.zip us
  | [], [], _, _ => rfl
  | [], _ :: _, _, h => by cases h
  | _ :: _, [], _, h => by cases h
  | p :: ps, u :: us, nd, h => by
    rw [List.nodup_cons] at nd
    rw [List.zip_cons_cons, List.filterMap_cons, List.lookup_cons_self]
    simp only [Option.map_some]
    congr 1
    have ih := filterMap_zip (ps := ps) (us := us) nd.2 (by simpa using h)
    rw [← ih]
    rw [ih]
    conv => rhs; rw [← ih]
    have : ∀ (l : List Str), (∀ y ∈ l, y ≠ p) → l.filterMap (fun n => (((p, u) :: ps.zip us).lookup n).map fun v => (n, v)) = l.filterMap (fun n => ((ps.zip us).lookup n).map fun v => (n, v)) := by
      intro l
      induction l with
      | nil => intro _; rfl
      | cons y l ihl =>
        intro hy
        have h1 : (y == p) = false := by rw [beq_eq_false_iff_ne]; exact hy y (List.mem_cons_self)
        rw [List.filterMap_cons, List.filterMap_cons, List.lookup_cons, h1, ihl fun z hz => hy z (List.mem_cons_of_mem _ hz)]
    exact this ps fun y hy e => nd.1 (e ▸ hy)
theorem bind_all {x qual : Str} {args : List Arg} {ds : List Expr} {body : List Stmt} {scope : Scope} {kV doc pm : Value} {an : Option Addr} {cdv ct : Value} {us : List Value} (nd : (args.map (·.arg)).Nodup) (hl : us.length = (args.map (·.arg)).length) :
    bindArgs (PySem.W.fnOf x qual ⟨[], args, none, [], [], none, ds⟩ body scope .none kV doc pm an cdv ct) ⟨us, []⟩ = pure ((args.map (·.arg)).zip us) := by
  have hm : ((args.map (·.arg)).filter fun n => (((args.map (·.arg)).zip us).lookup n).isNone) = [] := by
    rw [List.filter_eq_nil_iff]
    intro a ha
    have := lookup_zip hl ha
    cases h : (((args.map (·.arg)).zip us).lookup a) with
    | none => rw [h] at this; cases this
    | some _ => simp
  have hz := filterMap_zip nd hl
  unfold bindArgs PySem.W.fnOf
  simp only [List.map_nil, List.nil_append]
  generalize args.map (·.arg) = ps at *
  have hs : seqItems? Value.none = pure none := rfl
  simp only [hs, pure_bind, Option.getD_none, List.forIn_nil, List.length_nil]
  have h1 : decide (us.length > ps.length) = false := decide_eq_false (by omega)
  simp only [h1, Bool.false_and, Bool.false_eq_true, if_false, List.drop_nil, List.length_nil, Nat.sub_zero, List.take_length, hm, List.isEmpty_nil, Bool.not_true, List.drop_length, List.zip_nil_right, List.forIn_nil, pure_bind, List.append_nil, hz]

theorem vals_getD {vs : List V} {us : List Value} (h : Vals vs us) (i : Nat) : RelV (vs.getD i .non) (us.getD i .none) := by
  rw [List.getD_eq_getElem?_getD, List.getD_eq_getElem?_getD]
  cases e : vs[i]? with
  | some v =>
    obtain ⟨u, e1, e2⟩ := h.get e
    rw [e1]; exact e2
  | none =>
    rw [h.none_of e]
    exact rfl
theorem vals_pick {vs : List V} {us : List Value} (h : Vals vs us) : ∀ pm : List Nat, Vals (pm.map fun i => vs.getD i .non) (pm.map fun i => us.getD i .none)
  | [] => .nil
  | i :: pm => .cons (vals_getD h i) (vals_pick h pm)
/-! ### a def of the text -/
def topOf (p : Program) (i : Nat) : Stmt := p.main.body.getD i (.Pass ⟨0, 0, 0, 0⟩)
/-- a def: its name, its row, the names of its slots, its reading, its defaults -/
structure DR where
  nm : String
  dn : String
  i : Nat
  N : List Str
  fn : Fn
  dfl : List Int := []
def simpleArgs (a : Arguments) : Bool := match a with
  | ⟨[], _, none, [], [], none, _⟩ => true
  | _ => false
def parOf (a : Arguments) : List Str := a.args.map (·.arg)
def scopeB (N ps : List Str) (sc : Scope) : Bool :=
  decide (sc.kind = .function) && decide (sc.isCoroutine = false) && decide (sc.isGenerator = false) && decide N.Nodup && decide (N.take ps.length = ps) && (ps.all fun x => isLoc sc.names x) && (sc.names.all fun y => !decide (y.2 = .free))
theorem scopeB_ok {N ps : List Str} {sc : Scope} (h : scopeB N ps sc = true) : FnScope N ps sc := by
  unfold scopeB at h
  simp only [Bool.and_eq_true, decide_eq_true_eq, List.all_eq_true, Bool.not_eq_true', decide_eq_false_iff_not] at h
  obtain ⟨⟨⟨⟨⟨⟨h1, h2⟩, h3⟩, h4⟩, h5⟩, h6⟩, h7⟩ := h
  exact ⟨h1, h2, h3, h4, h5, fun x hx => loc_of (h6 x hx), h7⟩
/-- the whole check of a def -/
def DR.ok (fns cs : List String) (kb : List KE) (gc : Bool) (p : Program) (r : DR) : Bool :=
  simpleArgs (defArgs (topOf p r.i)) && scopeB r.N (parOf (defArgs (topOf p r.i))) (defScope (topOf p r.i)) && decide ((parOf (defArgs (topOf p r.i))).Nodup) && decide (r.N.length = r.fn.ns) && decide ((parOf (defArgs (topOf p r.i))).length = r.fn.np) &&
    mSB r.fn.body ⟨r.N, (defScope (topOf p r.i)).names, true, fns, cs, kb, gc, []⟩ (defBody (topOf p r.i))
def DR.defD (p : Program) (r : DR) : He.DefD := ⟨(Str.ofString r.nm, none), Str.ofString r.dn, Str.ofString r.dn, defArgs (topOf p r.i), defBody (topOf p r.i), defScope (topOf p r.i), r.dfl.map He.Dv.int, []⟩
def DR.ps (p : Program) (r : DR) : List Str := parOf (defArgs (topOf p r.i))
section
variable {fns cs : List String} {kb : List KE} {gc : Bool} {p : Program} {K : PySem.W.Frag} {r : DR} {fd : FuncData} {a : Addr}
abbrev FunR (p : Program) (r : DR) (K : PySem.W.Frag) (a : Addr) (fd : FuncData) : Prop := FunD K (Str.ofString r.dn) (Str.ofString r.dn) (defArgs (topOf p r.i)) (defBody (topOf p r.i)) (defScope (topOf p r.i)) (r.dfl.map V.int) [] a fd
theorem DR.defS (h : r.ok fns cs kb gc p = true) (F : FunR p r K a fd) : DefS fns cs kb gc K r.fn a fd (r.ps p) := by
  unfold DR.ok at h
  simp only [Bool.and_eq_true, decide_eq_true_eq] at h
  obtain ⟨⟨⟨⟨⟨h1, h2⟩, h3⟩, h4⟩, h5⟩, h6⟩ := h
  exact ⟨r.N, _, _, _, _, _, _, F, scopeB_ok h2, h4, h5, h6⟩
theorem args_of {a : Arguments} (h : simpleArgs a = true) : a = ⟨[], a.args, none, [], [], none, a.defaults⟩ := by
  unfold simpleArgs at h
  split at h
  · rfl
  · cases h
theorem DR.binds (h : r.ok fns cs kb gc p = true) (F : FunR p r K a fd) (hd : r.dfl = []) : Binds K fd (r.ps p) [] := by
  unfold DR.ok at h
  simp only [Bool.and_eq_true, decide_eq_true_eq] at h
  obtain ⟨⟨⟨⟨⟨h1, h2⟩, h3⟩, h4⟩, h5⟩, h6⟩ := h
  have F' : FunD K (Str.ofString r.dn) (Str.ofString r.dn) (defArgs (topOf p r.i)) (defBody (topOf p r.i)) (defScope (topOf p r.i)) [] [] a fd := by
    have := F
    unfold FunR at this
    rw [hd] at this
    exact this
  refine FunD.bindsN F' fun kV doc pm an cdv ct us hl => ?_
  rw [args_of h1]
  exact bind_all h3 hl
theorem DR.bind1 (h : r.ok fns cs kb gc p = true) (F : FunR p r K a fd) (hd : r.dfl = []) {x : Str} (hx : r.ps p = [x]) (s : Shared) (v : Value) : BindsTo s fd ⟨[v], []⟩ [(x, v)] := by
  unfold DR.ok at h
  simp only [Bool.and_eq_true, decide_eq_true_eq] at h
  obtain ⟨⟨⟨⟨⟨h1, h2⟩, h3⟩, h4⟩, h5⟩, h6⟩ := h
  have F' : FunD K (Str.ofString r.dn) (Str.ofString r.dn) (defArgs (topOf p r.i)) (defBody (topOf p r.i)) (defScope (topOf p r.i)) [] [] a fd := by
    have := F
    unfold FunR at this
    rw [hd] at this
    exact this
  have hx' : (defArgs (topOf p r.i)).args.map (·.arg) = [x] := hx
  have q := FunD.bindsA (ps := [x]) F' (fun kV doc pm an cdv ct us hl => by
    rw [args_of h1]
    have z := bind_all (x := Str.ofString r.dn) (qual := Str.ofString r.dn) (ds := (defArgs (topOf p r.i)).defaults) (body := defBody (topOf p r.i)) (scope := defScope (topOf p r.i)) (kV := kV) (doc := doc) (pm := pm) (an := an) (cdv := cdv) (ct := ct) (us := us) h3 (by rw [hx']; exact hl)
    rw [hx'] at z
    exact z) s [v] rfl
  simpa using q
/-- how a call with keywords binds -/
def KbOk (p : Program) (r : DR) (q : KE) : Prop := ∀ (kV doc pm : Value) (an : Option Addr) (cdv ct : Value) (us ws : List Value), us.length = q.n → ws.length = q.kns.length →
  bindArgs (PySem.W.fnOf (Str.ofString r.dn) (Str.ofString r.dn) (defArgs (topOf p r.i)) (defBody (topOf p r.i)) (defScope (topOf p r.i)) .none kV doc pm an cdv ct) ⟨us, (q.kns.map Str.ofString).zip ws⟩ = pure ((r.ps p).zip (q.pm.map fun i => (us ++ ws).getD i .none))
theorem DR.kbinds {q : KE} (F : FunR p r K a fd) (hd : r.dfl = []) (hv : q.dv = []) (h : KbOk p r q) :
    ∀ (s : Shared) (us ws : List Value), K.In s.heap → us.length = q.n → ws.length = q.kns.length → ∃ bs : List Value, BindsTo s fd ⟨us, (q.kns.map Str.ofString).zip ws⟩ ((r.ps p).zip bs) ∧ ∀ vs zs : List V, Vals vs us → Vals zs ws → Vals (q.pm.map fun i => (vs ++ zs ++ q.dv.map V.int).getD i .non) bs := by
  intro s us ws _ l1 l2
  have F' : FunD K (Str.ofString r.dn) (Str.ofString r.dn) (defArgs (topOf p r.i)) (defBody (topOf p r.i)) (defScope (topOf p r.i)) [] [] a fd := by
    have := F
    unfold FunR at this
    rw [hd] at this
    exact this
  obtain ⟨oc, od, dV, kV, doc, pm, an, cdv, ct, osl, rfl, lk, hcd, hD, hK⟩ := F'.ex
  rcases hD with ⟨_, rfl⟩ | ⟨e, _⟩
  · refine ⟨_, BindsTo.of_eq (h kV doc pm an cdv ct us ws l1 l2), fun vs zs r1 r2 => ?_⟩
    rw [hv, List.map_nil, List.append_nil]
    exact vals_pick (r1.append r2) q.pm
  · exact absurd rfl e
/-- .. with defaults: pick: which of them -/
def KbOkD (p : Program) (r : DR) (q : KE) (pick : List Nat) : Prop := ∀ (T : Addr) (kV doc pm : Value) (an : Option Addr) (cdv ct : Value) (us ws its : List Value), us.length = q.n → ws.length = q.kns.length → its.length = r.dfl.length →
  ∃ k, bindArgs (PySem.W.fnOf (Str.ofString r.dn) (Str.ofString r.dn) (defArgs (topOf p r.i)) (defBody (topOf p r.i)) (defScope (topOf p r.i)) (.ref T) kV doc pm an cdv ct) ⟨us, (q.kns.map Str.ofString).zip ws⟩ = seqItems? (.ref T) >>= k ∧
    k (some its.toArray) = pure ((r.ps p).zip (q.pm.map fun i => (us ++ ws ++ pick.map fun j => its.getD j .none).getD i .none))
theorem DR.kbindsD {q : KE} (F : FunR p r K a fd) (pick : List Nat) (hd : r.dfl ≠ []) (hv : q.dv.map V.int = pick.map fun j => (r.dfl.map V.int).getD j .non) (h : KbOkD p r q pick) :
    ∀ (s : Shared) (us ws : List Value), K.In s.heap → us.length = q.n → ws.length = q.kns.length → ∃ bs : List Value, BindsTo s fd ⟨us, (q.kns.map Str.ofString).zip ws⟩ ((r.ps p).zip bs) ∧ ∀ vs zs : List V, Vals vs us → Vals zs ws → Vals (q.pm.map fun i => (vs ++ zs ++ q.dv.map V.int).getD i .non) bs := by
  intro s us ws X l1 l2
  obtain ⟨oc, od, dV, kV, doc, pm, an, cdv, ct, osl, rfl, lk, hcd, hD, hK⟩ := F.ex
  rcases hD with ⟨e, _⟩ | ⟨_, T, o, its, m, rfl, lT, oT, rT⟩
  · exact absurd (by simpa using e) hd
  · have l3 : its.length = r.dfl.length := by rw [← rT.length]; simp
    obtain ⟨k, e1, e2⟩ := h T kV doc pm an cdv ct us ws its l1 l2 l3
    refine ⟨q.pm.map fun i => (us ++ ws ++ pick.map fun j => its.getD j .none).getD i .none, BindsTo.of_looks fun M => ?_, fun vs zs r1 r2 => ?_⟩
    · rw [e1]
      exact looks_items X lT oT (.of_pure e2)
    · refine vals_pick ((r1.append r2).append ?_) q.pm
      rw [hv]
      exact vals_pick rT pick
end
/-! ### the table -/
def pfOf (rs : List DR) (f : String) : Option Fn := (rs.find? fun r => r.nm == f).map (·.fn)
def fnsOf (rs : List DR) : List String := (rs.filter fun r => r.dfl.isEmpty).map (·.nm)
def gOf (cs : List (String × D)) (x : String) : Option D := cs.lookup x
def faOf (rs : List DR) : List He.Fa := rs.map (fun r => He.Fa.glo (Str.ofString r.nm)) ++ biNames.map fun b => He.Fa.free (Str.ofString b)
/-! ### constants of the module -/
mutual
def daB (K : PySem.W.Frag) : Value → D → Bool
  | u, .none => match u with
    | .none => true
    | _ => false
  | u, .bool b => match u with
    | .bool c => b == c
    | _ => false
  | u, .int i => match u with
    | .int j _ => decide (i = j)
    | _ => false
  | u, .str x => match u with
    | .str y _ => decide (x = y)
    | _ => false
  | u, .tuple ds => match u with
    | .ref a => match K.lookup a with
      | some ⟨.type c, _, .seq its _, _⟩ => decide (c = "tuple") && (decide (its.size ≤ sizeLine) && daBAll K its.toList ds)
      | _ => false
    | _ => false
  | _, .list _ => false
  | _, .dict _ => false
def daBAll (K : PySem.W.Frag) : List Value → List D → Bool
  | us, [] => us.isEmpty
  | us, d :: ds => match us with
    | u :: us => daB K u d && daBAll K us ds
    | _ => false
end
mutual
theorem daB_ok {K : PySem.W.Frag} : ∀ (d : D) (u : Value), daB K u d = true → ∃ v, RelV v u ∧ DaK K v d
  | .none, u, h => by
    unfold daB at h; split at h
    · exact ⟨.non, rfl, .non⟩
    · cases h
  | .bool b, u, h => by
    unfold daB at h; split at h
    · rename_i c
      have e : b = c := eq_of_beq h
      subst e
      exact ⟨.bl b, rfl, .bl b⟩
    · cases h
  | .int i, u, h => by
    unfold daB at h; split at h
    · rename_i j t
      have e : i = j := of_decide_eq_true h
      subst e
      exact ⟨.int i, ⟨t, rfl⟩, .int i⟩
    · cases h
  | .str x, u, h => by
    unfold daB at h; split at h
    · rename_i y t
      have e : x = y := of_decide_eq_true h
      subst e
      exact ⟨.str x, ⟨t, rfl⟩, .str x⟩
    · cases h
  | .tuple ds, u, h => by
    unfold daB at h; split at h
    · rename_i a
      split at h
      · rename_i c od its n sl hk
        simp only [Bool.and_eq_true, decide_eq_true_eq] at h
        obtain ⟨h1, h2, h3⟩ := h
        obtain ⟨xs, r, q⟩ := daBAll_ok ds its.toList h3
        exact ⟨.ref a, rfl, .tup ⟨_, its, n, hk, by rw [h1], rfl, h2, r⟩ q⟩
      · cases h
    · cases h
  | .list _, u, h => by unfold daB at h; cases h
  | .dict _, u, h => by unfold daB at h; cases h
theorem daBAll_ok {K : PySem.W.Frag} : ∀ (ds : List D) (us : List Value), daBAll K us ds = true → ∃ vs, Vals vs us ∧ DaKAll K vs ds
  | [], us, h => by
    unfold daBAll at h
    have : us = [] := by simpa using h
    subst this
    exact ⟨[], .nil, .nil⟩
  | d :: ds, us, h => by
    unfold daBAll at h; split at h
    · rename_i u us
      rw [Bool.and_eq_true] at h
      obtain ⟨v, r, q⟩ := daB_ok d u h.1
      obtain ⟨vs, r2, q2⟩ := daBAll_ok ds us h.2
      exact ⟨v :: vs, .cons r r2, .cons q q2⟩
    · cases h
end
def entB (K : PySem.W.Frag) : List DictEntry → List (D × D) → Bool
  | [], [] => true
  | e :: es, (.str k, d) :: kvs => (match e.key with
    | .str x _ => decide (x = k)
    | _ => false) && daB K e.val d && entB K es kvs
  | _, _ => false
def dctB (K : PySem.W.Frag) (u : Value) (kvs : List (D × D)) : Bool := match u with
  | .ref a => match K.lookup a with
    | some ⟨.type c, none, .dict es _, sl⟩ => decide (c = "dict") && sl.isEmpty && !(a == sysModules) && !kvs.isEmpty && entB K es.toList kvs
    | _ => false
  | _ => false
theorem entB_ok {K : PySem.W.Frag} : ∀ {es : List DictEntry} {kvs : List (D × D)}, entB K es kvs = true → ∃ (ks : List Str) (vs : List V) (ds : List D), ks.length = vs.length ∧ DaKAll K vs ds ∧ kvs = (ks.map PyData.str).zip ds ∧ (es.any (·.refKey)) = false ∧
    ∀ z : Str, match (ks.zip vs).lookup z with
      | some v => ∃ e, es.find? (·.key.isStr z) = some e ∧ RelV v e.val
      | none => es.find? (·.key.isStr z) = none
  | [], [], _ => ⟨[], [], [], rfl, .nil, rfl, rfl, fun _ => rfl⟩
  | [], _ :: _, h => by cases h
  | _ :: _, [], h => by cases h
  | e :: es, (kd, d) :: kvs, h => by
    cases kd <;> try (unfold entB at h; cases h; done)
    rename_i k
    unfold entB at h
    simp only [Bool.and_eq_true] at h
    obtain ⟨⟨h1, h2⟩, h3⟩ := h
    obtain ⟨ks, vs, ds, i1, i2, rfl, i4, i5⟩ := entB_ok h3
    obtain ⟨v, r, q⟩ := daB_ok d e.val h2
    split at h1
    · rename_i x t hk
      have ex : x = k := of_decide_eq_true h1
      subst ex
      refine ⟨x :: ks, v :: vs, d :: ds, by simp [i1], .cons q i2, rfl, ?_, fun z => ?_⟩
      · rw [List.any_cons, i4]
        have : e.refKey = false := by unfold DictEntry.refKey; rw [hk]
        rw [this]; rfl
      · rw [List.zip_cons_cons, List.lookup_cons, List.find?_cons]
        have hs : e.key.isStr z = (z == x) := by
          rw [hk]
          show (x == z) = (z == x)
          exact Bool.beq_comm
        rw [hs]
        cases hz : z == x with
        | true => exact ⟨e, rfl, r⟩
        | false => exact i5 z
    · cases h1
theorem dctB_ok {K : PySem.W.Frag} {u : Value} {kvs : List (D × D)} {x : Str} (hx : PySem.W.nsIn K mainGlobals x = some (some u)) (h : dctB K u kvs = true) : ∃ a, u = .ref a ∧ DctK K a kvs := by
  unfold dctB at h
  split at h
  · rename_i a
    split at h
    · rename_i c es n sl hk
      simp only [Bool.and_eq_true, decide_eq_true_eq, Bool.not_eq_true'] at h
      obtain ⟨⟨⟨⟨h1, h2⟩, h3⟩, h4⟩, h5⟩ := h
      subst h1
      have e2 : sl = #[] := Array.isEmpty_iff.mp h2
      subst e2
      obtain ⟨ks, vs, ds, i1, i2, i3, i4, i5⟩ := entB_ok h5
      refine ⟨a, rfl, ⟨x, es, n, ks, vs, ds, hx, hk, h3, ⟨i1, fun z => ?_⟩, i2, i3⟩, fun e => by rw [e] at h4; cases h4⟩
      have q := i5 z
      have ns : PySem.W.nsIn K a z = match es.toList.find? (·.key.isStr z) with
          | some e => some (some e.val)
          | none => if es.toList.any (·.refKey) then none else some none := by
        unfold PySem.W.nsIn; rw [hk] <;> rfl
      rw [i4] at ns
      split
      · rename_i v hv
        rw [hv] at q
        obtain ⟨e, q1, q2⟩ := q
        rw [q1] at ns
        exact ⟨e.val, ns, q2⟩
      · rename_i hv
        rw [hv] at q
        rw [q] at ns
        exact ns
    · cases h
  · cases h
def conK (K : PySem.W.Frag) (c : String × D) : Bool := match PySem.W.nsIn K mainGlobals (Str.ofString c.1) with
  | some (some u) => match c.2 with
    | .dict kvs => dctB K u kvs
    | d => daB K u d
  | _ => false
theorem conK_ok {K : PySem.W.Frag} {c : String × D} (h : conK K c = true) : ∃ v u, PySem.W.nsIn K mainGlobals (Str.ofString c.1) = some (some u) ∧ RelV v u ∧ ∀ H A, Da K H A v c.2 := by
  unfold conK at h
  split at h
  · rename_i u hu
    have leaf : ∀ d, d = c.2 → daB K u d = true → ∃ v u, PySem.W.nsIn K mainGlobals (Str.ofString c.1) = some (some u) ∧ RelV v u ∧ ∀ H A, Da K H A v c.2 := fun d e h => by
      obtain ⟨v, r, q⟩ := daB_ok d u h
      exact ⟨v, u, hu, r, fun H A => by rw [← e]; exact DaK.da _ _ q⟩
    split at h
    · rename_i kvs hd
      obtain ⟨a, rfl, q⟩ := dctB_ok hu h
      exact ⟨.ref a, _, hu, rfl, fun H A => by rw [hd]; exact .dctK q⟩
    · exact leaf _ rfl h
  · cases h
/-- every dict that a name of the module stands for is empty or told of -/
def allD (ts : List He.Tab) (K : PySem.W.Frag) : Bool := match K.lookup mainGlobals with
  | some ⟨_, _, .dict es _, _⟩ => es.toList.all fun e => match e.val with
    | .ref a => match K.lookup a with
      | some ⟨.type _, none, .dict es2 _, _⟩ => es2.toList.isEmpty || ts.any fun t => t.1 K == a
      | _ => true
    | _ => true
  | _ => false
theorem litOk_of {w : World} {ts : List He.Tab} {K : PySem.W.Frag} (h : allD ts K = true) (ht : ∀ t ∈ ts, ∃ es n, KDict K w (t.1 K) es n) : LitOk K w := by
  intro x a es n hx hk
  unfold allD at h
  unfold PySem.W.nsIn at hx
  cases hm : K.lookup mainGlobals with
  | none => rw [hm] at hx; cases hx
  | some o =>
    rw [hm] at hx h
    obtain ⟨oc, od, dt, sl⟩ := o
    cases dt with
    | dict es0 n0 =>
      dsimp only at hx h
      cases hf : es0.toList.find? (·.key.isStr x) with
      | none => rw [hf] at hx; dsimp only at hx; split at hx <;> cases hx
      | some e =>
        rw [hf] at hx
        have ev : e.val = .ref a := by simpa using hx
        have hmem := List.mem_of_find?_eq_some hf
        have q := List.all_eq_true.mp h e hmem
        rw [ev] at q
        dsimp only at q
        rw [hk] at q
        dsimp only at q
        rw [Bool.or_eq_true] at q
        rcases q with q | q
        · have : es.toList = [] := by simpa using q
          rw [this]; trivial
        · obtain ⟨t, tm, te⟩ := List.any_eq_true.mp q
          have te : t.1 K = a := eq_of_beq te
          obtain ⟨es', n', D⟩ := ht t tm
          have := D.at_
          rw [te, hk] at this
          cases this
          exact D.lit
    | _ => cases hx
def keysD : List (D × D) → List Str
  | [] => []
  | (.str k, _) :: r => k :: keysD r
  | _ :: r => keysD r
def tsOf (cs : List (String × D)) : List He.Tab := cs.filterMap fun c => match c.2 with
  | .dict kvs => some (fun K => He.ga K (Str.ofString c.1), keysD kvs)
  | _ => none
def exOf (gc : Bool) (cs : List (String × D)) (K : PySem.W.Frag) : Bool := cs.all (conK K) && allD (tsOf cs) K && (!gc || decide (PySem.W.nsIn K mainGlobals (Str.ofString "gcd") = some (some (.builtin "math.gcd"))))
abbrev Says (gc : Bool) (rs : List DR) (cs : List (String × D)) (p : Program) (w : World) (h : Heap) (K : PySem.W.Frag) : Prop := He.SaysX (faOf rs) (rs.map (DR.defD p)) (tsOf cs) [] (exOf gc cs) w h K
section
variable {rs : List DR} {cs : List (String × D)} {kb : List KE} {gc : Bool} {p : Program} {w : World} {K : PySem.W.Frag} {h h0 : Heap} {mg : Str → Option Value}
theorem find_of (nd : (rs.map (·.nm)).Nodup) {r : DR} (hr : r ∈ rs) : pfOf rs r.nm = some r.fn := by
  unfold pfOf
  induction rs with
  | nil => cases hr
  | cons q rs ih =>
    rw [List.map_cons, List.nodup_cons] at nd
    rw [List.find?_cons]
    rcases List.mem_cons.mp hr with e | e
    · subst e; simp
    · have : (q.nm == r.nm) = false := by
        rw [beq_eq_false_iff_ne]
        intro z
        exact nd.1 (z ▸ List.mem_map.mpr ⟨r, e, rfl⟩)
      rw [this]
      exact ih nd.2 e
theorem base_of_says (X : K.In h) (G : h.Ns mainGlobals mg) {CX : CXT} (c : Says gc rs cs p w h0 K) : Base (fnsOf rs) (cs.map (·.1)) kb gc (gOf cs) CX w K mg := by
  have hm := c.more
  unfold exOf at hm
  simp only [Bool.and_eq_true, List.all_eq_true, Bool.or_eq_true, Bool.not_eq_true', decide_eq_true_eq] at hm
  obtain ⟨⟨h1, h2⟩, h3⟩ := hm
  refine ⟨fun hg => ?_, ?_, fun b hb => ?_, fun x hx => ?_⟩
  · rcases h3 with h3 | h3
    · rw [hg] at h3; cases h3
    · exact PySem.W.mg_of X G h3
  · refine litOk_of h2 fun t ht => ?_
    obtain ⟨i, hi⟩ := List.getElem?_of_mem ht
    exact c.t.tab i hi
  · obtain ⟨i, hi⟩ := List.getElem?_of_mem (List.mem_append_right (rs.map (fun r => He.Fa.glo (Str.ofString r.nm))) (List.mem_map.mpr ⟨b, hb, rfl⟩ : He.Fa.free (Str.ofString b) ∈ biNames.map fun b => He.Fa.free (Str.ofString b)))
    exact He.free_ok X G (c.t.d.fact i hi)
  · rw [List.contains_iff_mem] at hx
    obtain ⟨q, hq, rfl⟩ := List.mem_map.mp hx
    have : ∃ d, cs.lookup q.1 = some d ∧ (q.1, d) ∈ cs := by
      clear h1 h2 c hx
      induction cs with
      | nil => cases hq
      | cons z cs ih =>
        rw [List.lookup_cons]
        by_cases e : q.1 == z.1
        · rw [e]
          have e' : q.1 = z.1 := eq_of_beq e
          exact ⟨z.2, rfl, by rw [e']; exact List.mem_cons_self⟩
        · have e' : (q.1 == z.1) = false := by simpa using e
          rw [e']
          rcases List.mem_cons.mp hq with y | y
          · subst y; simp at e'
          · obtain ⟨i, h1, h2⟩ := ih y
            exact ⟨i, h1, List.mem_cons_of_mem _ h2⟩
    obtain ⟨d, e1, e2⟩ := this
    obtain ⟨v, u, g1, g2, g3⟩ := conK_ok (h1 _ e2)
    exact ⟨d, v, u, e1, PySem.W.mg_of X G g1, g2, g3⟩
theorem def_at (X : K.In h) (G : h.Ns mainGlobals mg) (c : Says gc rs cs p w h0 K) {r : DR} (hr : r ∈ rs) : ∃ fd, mg (Str.ofString r.nm) = some (.ref (He.ga K (Str.ofString r.nm))) ∧ FunR p r K (He.ga K (Str.ofString r.nm)) fd := by
  obtain ⟨i, hi⟩ := List.getElem?_of_mem hr
  obtain ⟨fd, F⟩ := c.t.d.def_ i (d := r.defD p) (by rw [List.getElem?_map, hi]; rfl)
  obtain ⟨j, hj⟩ := List.getElem?_of_mem (List.mem_append_left (biNames.map fun b => He.Fa.free (Str.ofString b)) (List.mem_map.mpr ⟨r, hr, rfl⟩ : He.Fa.glo (Str.ofString r.nm) ∈ rs.map (fun r => He.Fa.glo (Str.ofString r.nm))))
  have ed : (r.defD p).dvs K = r.dfl.map V.int := by
    show (r.dfl.map He.Dv.int).map (He.Dv.v K) = _
    rw [List.map_map]; rfl
  have F' : FunD K (Str.ofString r.dn) (Str.ofString r.dn) (defArgs (topOf p r.i)) (defBody (topOf p r.i)) (defScope (topOf p r.i)) ((r.defD p).dvs K) [] (He.ga K (Str.ofString r.nm)) fd := F
  rw [ed] at F'
  exact ⟨fd, He.glo_ok X G (c.t.d.fact j hj), F'⟩
theorem tabs_of (X : K.In h) (G : h.Ns mainGlobals mg) (c : Says gc rs cs p w h0 K) (nd : (rs.map (·.nm)).Nodup) (hok : (rs.all fun r => r.ok (fnsOf rs) (cs.map (·.1)) kb gc p) = true)
    (hkb : ∀ q ∈ kb, ∃ r ∈ rs, r.nm = q.f ∧ ∀ a fd, FunR p r K a fd → ∀ (s : Shared) (us ws : List Value), K.In s.heap → us.length = q.n → ws.length = q.kns.length → ∃ bs : List Value, BindsTo s fd ⟨us, (q.kns.map Str.ofString).zip ws⟩ ((r.ps p).zip bs) ∧ ∀ vs zs : List V, Vals vs us → Vals zs ws → Vals (q.pm.map fun i => (vs ++ zs ++ q.dv.map V.int).getD i .non) bs) :
    Tabs (fnsOf rs) (cs.map (·.1)) kb gc (pfOf rs) K mg := by
  rw [List.all_eq_true] at hok
  refine ⟨fun f hf => ?_, fun q hq => ?_⟩
  · rw [List.contains_iff_mem] at hf
    obtain ⟨r, hr, rfl⟩ := List.mem_map.mp hf
    obtain ⟨hr, hd⟩ := List.mem_filter.mp hr
    obtain ⟨fd, e1, F⟩ := def_at X G c hr
    exact ⟨r.fn, _, fd, r.ps p, find_of nd hr, e1, DR.defS (hok r hr) F, DR.binds (hok r hr) F (by simpa using hd)⟩
  · rw [List.contains_iff_mem] at hq
    obtain ⟨r, hr, e, hb⟩ := hkb q hq
    obtain ⟨fd, e1, F⟩ := def_at X G c hr
    rw [← e]
    exact ⟨r.fn, _, fd, r.ps p, find_of nd hr, e1, DR.defS (hok r hr) F, hb _ fd F⟩
/-! ### the law -/
theorem excW0 : ExcW (fun _ => XF) CX0 := ⟨fun _ _ _ _ _ h => h, fun _ _ _ _ _ _ _ _ _ _ _ _ _ _ _ => pass0⟩
theorem ints_da {K : PySem.W.Frag} {H : Hp} {A : Addr → Prop} : ∀ ns : List Int, DaAll K H A (ns.map V.int) (ns.map PyData.int)
  | [] => .nil
  | n :: ns => .cons (.int n) (ints_da ns)
theorem promise_of {fn : List R → Store → Out R} {a : Addr} {ns : List Int} {H : Hp} (hO : Only H) (hS : SqL K H a (ns.map V.int)) (hl : ∃ S', fn [.ref 0] [.ro (ns.map PyData.int)] = .ok (.d (.bool true)) S') :
    SpK (fun _ => XF) K 1 fn [.ref a] H (fun v _ => v = .bl true) fun _ _ _ => False := by
  obtain ⟨S', e⟩ := hl
  have nl : ∀ F : Nat → Addr, ∀ b, ¬ Live [.ro (ns.map PyData.int)] F b := fun F b ⟨i, ds, h, _⟩ => by
    cases i with
    | zero => simp at h
    | succ i => simp at h
  refine ⟨rfl, [.ref 0], [.ro (ns.map PyData.int)], fun _ => a, ⟨fun i c h => ?_, fun i j c e h => ?_⟩, .cons ⟨Nat.zero_lt_one, rfl⟩ .nil, ?_⟩
  · cases i with
    | zero =>
      simp at h
      subst h
      refine ⟨_, ?_, ints_da ns⟩
      rcases hS with (h | ⟨o, h⟩) | h
      · rcases hO a with z | ⟨o, xs, z⟩
        · rw [z] at h; cases h
        · rw [z] at h; cases h
      · exact .inl ⟨o, h⟩
      · exact .inr h
    | succ i => simp at h
  · exact absurd ⟨i, c, h, rfl⟩ (nl (fun _ => a) a)
  · rw [e]
    intro H' F' w l v hv
    have hv : Da K H' (Live S' F') v (.bool true) := hv
    cases hv
    rfl
/-- the law's def over every base -/
theorem law_def {k : Nat} {r : DR} (X : K.In h) (G : h.Ns mainGlobals mg) (c : Says gc rs cs p w h0 K) (nd : (rs.map (·.nm)).Nodup) (hok : (rs.all fun r => r.ok (fnsOf rs) (cs.map (·.1)) kb gc p) = true)
    (hkb : ∀ q ∈ kb, ∃ r ∈ rs, r.nm = q.f ∧ ∀ a fd, FunR p r K a fd → ∀ (s : Shared) (us ws : List Value), K.In s.heap → us.length = q.n → ws.length = q.kns.length → ∃ bs : List Value, BindsTo s fd ⟨us, (q.kns.map Str.ofString).zip ws⟩ ((r.ps p).zip bs) ∧ ∀ vs zs : List V, Vals vs us → Vals zs ws → Vals (q.pm.map fun i => (vs ++ zs ++ q.dv.map V.int).getD i .non) bs)
    (hr : r ∈ rs) (hd : r.dfl = []) {x : Str} (hps : r.ps p = [x]) {fa : Addr} (hfa : mg (Str.ofString r.nm) = some (.ref fa)) :
    ∃ fd : FuncData, (∀ (s : Shared) (v : Value), BindsTo s fd ⟨[v], []⟩ [(x, v)]) ∧
      ∀ base : Heap, K.In base → base.Ns mainGlobals mg → FnG p w K mg base CX0 k fa fd [x] (SpK (fun _ => XF) K 1 (runF (pfOf rs) (gOf cs) k r.nm)) := by
  obtain ⟨fd, e1, F⟩ := def_at X G c hr
  have e : fa = He.ga K (Str.ofString r.nm) := by
    have := hfa.symm.trans e1
    cases this; rfl
  subst e
  have hokr := List.all_eq_true.mp hok r hr
  refine ⟨fd, DR.bind1 hokr F hd hps, fun base hk hn => ?_⟩
  have L := (levels (P := p) (w := w) (base := base) (G := gOf cs) excW0 (base_of_says (kb := kb) X G c) (tabs_of X G c nd hok hkb) k).2.2 r.nm r.fn _ fd _ (find_of nd hr) (DR.defS hokr F)
  rw [hps] at L
  exact L
end
end Sx
set_option Elab.async false
set_option linter.all false
set_option maxRecDepth 100000
set_option maxHeartbeats 4000000
/-! Sx, part Hk: a head's facts by one walk along the module's names. -/
namespace Sx
open PySem PySem.Spec PyProof.Rows L2
abbrev GG := Addr → Option Obj
/-- what a name of the module stands for -/
inductive Mn where
  | d (r : DR)
  | c (x : String) (y : D)
  | t (x : String) (kvs : List (D × D))
  | b (x : String) (id : String)
  | k (x : String) (ks : List Str)
  | s (x : String)
def Mn.nm : Mn → Str
  | .d r => Str.ofString r.nm
  | .c x _ | .t x _ | .b x _ | .k x _ | .s x => Str.ofString x
def Mn.row : Mn → Option DR
  | .d r => some r
  | _ => none
def Mn.con : Mn → Option (String × D)
  | .c x y => some (x, y)
  | .t x kvs => some (x, .dict kvs)
  | _ => none
def Mn.tab : Mn → Option (List Str)
  | .t _ kvs => some (keysD kvs)
  | .k _ ks => some ks
  | _ => none
section
variable {g : GG} {as : List Addr} {a : Addr}
theorem frG_lk : ∀ {as : List Addr}, a ∈ as → (He.frG g as).lookup a = g a
  | [], h => by cases h
  | b :: r, h => by
    have fr : He.frG g (b :: r) = match g b with
        | some o => (b, o) :: He.frG g r
        | none => He.frG g r := by
      unfold He.frG
      rw [List.filterMap_cons]
      cases g b <;> rfl
    rw [fr]
    by_cases e : a = b
    · subst e
      cases hb : g a with
      | some o => simp [List.lookup]
      | none =>
        dsimp only
        cases hl : (He.frG g r).lookup a with
        | none => rfl
        | some o => rw [He.frG_at r hl] at hb; cases hb
    · have hr : a ∈ r := by rcases List.mem_cons.mp h with z | z; exact absurd z e; exact z
      cases hb : g b with
      | some o =>
        have e' : (a == b) = false := by rw [beq_eq_false_iff_ne]; exact e
        dsimp only
        rw [List.lookup_cons, e']
        exact frG_lk hr
      | none => exact frG_lk hr
end
/-! ### one value -/
def adV : Value → List Addr
  | .ref a => [a]
  | _ => []
def dfB (g : GG) (dV : Value) (vs : List Int) : Bool := match vs with
  | [] => (match dV with
    | .none => true
    | _ => false)
  | v :: vs => (match dV with
    | .ref T => (match g T with
      | some ⟨_, _, .seq its _, _⟩ => He.relAll ((v :: vs).map V.int) its.toList
      | _ => false)
    | _ => false)
def cdB (g : GG) (cd : Value) (q : Str) : Bool := match cd with
  | .ref c => (match g c with
    | some ⟨_, _, .fields vs, _⟩ => (match vs.toList with
      | _ :: .str n _ :: _ => n == q
      | _ => false)
    | _ => false)
  | _ => false
def fnB (g : GG) (u : Value) (r : DR) : Bool := match u with
  | .ref a => (match g a with
    | some ⟨_, _, .func fd, _⟩ => cdB g fd.code (Str.ofString r.dn) && dfB g fd.defaults r.dfl
    | _ => false)
  | _ => false
def fnA (g : GG) (u : Value) : List Addr := match u with
  | .ref a => a :: (match g a with
    | some ⟨_, _, .func fd, _⟩ => adV fd.code ++ adV fd.defaults
    | _ => [])
  | _ => []
def fnO (g : GG) (u : Value) : He.FnW := match u with
  | .ref a => (match g a with
    | some ⟨_, _, .func fd, _⟩ => some (fd.name, fd.qualname, fd.params, fd.body, fd.scope, fd.globals, fd.closure, fd.builtins)
    | _ => none)
  | _ => none
section
variable {g : GG} {as : List Addr} {u : Value} {r : DR} {p : Program}
theorem cdB_ok {cd : Value} {q : Str} (h : cdB g cd q = true) (s : ∀ b ∈ adV cd, b ∈ as) : PySem.W.codeIn (He.frG g as) cd q = true := by
  cases cd with
  | ref c =>
    have e := frG_lk (g := g) (s c (by simp [adV]))
    unfold PySem.W.codeIn
    dsimp only
    rw [e]
    exact h
  | _ => cases h
theorem dfB_ok {dV : Value} {vs : List Int} (h : dfB g dV vs = true) (s : ∀ b ∈ adV dV, b ∈ as) : DflV (He.frG g as) dV (vs.map V.int) := by
  cases vs with
  | nil =>
    cases dV with
    | none => exact .inl ⟨rfl, rfl⟩
    | _ => cases h
  | cons v vs =>
    cases dV with
    | ref T =>
      have e := frG_lk (g := g) (s T (by simp [adV]))
      have h1 : (match g T with
        | some ⟨_, _, .seq its _, _⟩ => He.relAll ((v :: vs).map V.int) its.toList
        | _ => false) = true := h
      cases q : g T with
      | none => rw [q] at h1; cases h1
      | some o =>
        obtain ⟨oc, od, dt, osl⟩ := o
        rw [q] at h1
        cases dt with
        | seq its n => exact .inr ⟨by simp, T, _, its.toList, n, rfl, by rw [e]; exact q, by simp, He.relAll_ok h1⟩
        | _ => cases h1
    | _ => cases h
theorem fnB_ok (h : fnB g u r = true) (e : fnO g u = (DR.defD p r).val) (s : ∀ b ∈ fnA g u, b ∈ as) : ∃ a fd, u = .ref a ∧ FunR p r (He.frG g as) a fd := by
  cases u with
  | ref a =>
    have h1 : (match g a with
      | some ⟨_, _, .func fd, _⟩ => cdB g fd.code (Str.ofString r.dn) && dfB g fd.defaults r.dfl
      | _ => false) = true := h
    have e1 : (match g a with
      | some ⟨_, _, .func fd, _⟩ => some (fd.name, fd.qualname, fd.params, fd.body, fd.scope, fd.globals, fd.closure, fd.builtins)
      | _ => none : He.FnW) = (DR.defD p r).val := e
    have sa : a ∈ as := s a (by unfold fnA; exact List.mem_cons_self)
    have la := frG_lk (g := g) sa
    cases q : g a with
    | none => rw [q] at h1; cases h1
    | some o =>
      obtain ⟨oc, od, dt, osl⟩ := o
      rw [q] at h1 e1
      cases dt with
      | func fd =>
        obtain ⟨n1, n2, n3, n4, n5, n6, n7, n8, n9, n10, n11, n12, n13, n14, n15⟩ := fd
        have e2 : (some (n1, n2, n3, n4, n5, n6, n7, n15) : He.FnW) = some (Str.ofString r.dn, Str.ofString r.dn, defArgs (topOf p r.i), .stmts (defBody (topOf p r.i)), defScope (topOf p r.i), mainGlobals, [], builtinsNs) := e1
        simp only [Option.some.injEq, Prod.mk.injEq] at e2
        obtain ⟨h1', h2, h3, h4, h5, h6, h7, h8⟩ := e2
        subst h1' h2 h3 h4 h5 h6 h7 h8
        have h3 : (cdB g n13 (Str.ofString r.dn) && dfB g n8 r.dfl) = true := h1
        rw [Bool.and_eq_true] at h3
        have sub : ∀ b ∈ adV n13 ++ adV n8, b ∈ as := fun b hb => s b (by unfold fnA; dsimp only; rw [q]; exact List.mem_cons_of_mem _ hb)
        have lk : (He.frG g as).lookup a = _ := la.trans q
        refine ⟨a, _, rfl, ⟨⟨oc, od, n8, n9, n10, n11, n12, n13, n14, osl, rfl, lk, cdB_ok h3.1 fun b hb => sub b (List.mem_append_left _ hb), dfB_ok h3.2 fun b hb => sub b (List.mem_append_right _ hb), .inl rfl⟩, ?_⟩⟩
        unfold PySem.W.keepIn
        dsimp only
        rw [lk]
      | _ => cases h1
  | _ => cases h
end
/-! ### constants -/
mutual
def daG (g : GG) : Value → D → Bool
  | u, .none => match u with
    | .none => true
    | _ => false
  | u, .bool b => match u with
    | .bool c => b == c
    | _ => false
  | u, .int i => match u with
    | .int j _ => decide (i = j)
    | _ => false
  | u, .str x => match u with
    | .str y _ => decide (x = y)
    | _ => false
  | u, .tuple ds => match u with
    | .ref a => match g a with
      | some ⟨.type c, _, .seq its _, _⟩ => decide (c = "tuple") && (decide (its.size ≤ sizeLine) && daGAll g its.toList ds)
      | _ => false
    | _ => false
  | _, .list _ => false
  | _, .dict _ => false
def daGAll (g : GG) : List Value → List D → Bool
  | us, [] => us.isEmpty
  | us, d :: ds => match us with
    | u :: us => daG g u d && daGAll g us ds
    | _ => false
end
mutual
def daA (g : GG) : Value → D → List Addr
  | _, .none | _, .bool _ | _, .int _ | _, .str _ | _, .list _ | _, .dict _ => []
  | u, .tuple ds => match u with
    | .ref a => a :: match g a with
      | some ⟨_, _, .seq its _, _⟩ => daAAll g its.toList ds
      | _ => []
    | _ => []
def daAAll (g : GG) : List Value → List D → List Addr
  | _, [] => []
  | us, d :: ds => match us with
    | u :: us => daA g u d ++ daAAll g us ds
    | _ => []
end
mutual
theorem daG_ok {g : GG} {as : List Addr} : ∀ (d : D) (u : Value), daG g u d = true → (∀ b ∈ daA g u d, b ∈ as) → ∃ v, RelV v u ∧ DaK (He.frG g as) v d
  | .none, u, h, s0 => by
    clear s0; unfold daG at h; split at h
    · exact ⟨.non, rfl, .non⟩
    · cases h
  | .bool b, u, h, s0 => by
    clear s0; unfold daG at h; split at h
    · rename_i c
      have e : b = c := eq_of_beq h
      subst e
      exact ⟨.bl b, rfl, .bl b⟩
    · cases h
  | .int i, u, h, s0 => by
    clear s0; unfold daG at h; split at h
    · rename_i j t
      have e : i = j := of_decide_eq_true h
      subst e
      exact ⟨.int i, ⟨t, rfl⟩, .int i⟩
    · cases h
  | .str x, u, h, s0 => by
    clear s0; unfold daG at h; split at h
    · rename_i y t
      have e : x = y := of_decide_eq_true h
      subst e
      exact ⟨.str x, ⟨t, rfl⟩, .str x⟩
    · cases h
  | .tuple ds, u, h, s => by
    unfold daG at h; split at h
    · rename_i a
      split at h
      · rename_i c od its n sl hk
        simp only [Bool.and_eq_true, decide_eq_true_eq] at h
        obtain ⟨h1, h2, h3⟩ := h
        unfold daA at s
        dsimp only at s
        rw [hk] at s
        obtain ⟨xs, r, q⟩ := daGAll_ok ds its.toList h3 fun b hb => s b (List.mem_cons_of_mem _ hb)
        exact ⟨.ref a, rfl, .tup ⟨_, its, n, (frG_lk (g := g) (s a List.mem_cons_self)).trans hk, by rw [h1], rfl, h2, r⟩ q⟩
      · cases h
    · cases h
  | .list _, u, h, _ => by unfold daG at h; cases h
  | .dict _, u, h, _ => by unfold daG at h; cases h
theorem daGAll_ok {g : GG} {as : List Addr} : ∀ (ds : List D) (us : List Value), daGAll g us ds = true → (∀ b ∈ daAAll g us ds, b ∈ as) → ∃ vs, Vals vs us ∧ DaKAll (He.frG g as) vs ds
  | [], us, h, _ => by
    unfold daGAll at h
    have : us = [] := by simpa using h
    subst this
    exact ⟨[], .nil, .nil⟩
  | d :: ds, us, h, s => by
    unfold daGAll at h; split at h
    · rename_i u us
      rw [Bool.and_eq_true] at h
      unfold daAAll at s
      dsimp only at s
      obtain ⟨v, r, q⟩ := daG_ok d u h.1 fun b hb => s b (List.mem_append_left _ hb)
      obtain ⟨vs, r2, q2⟩ := daGAll_ok ds us h.2 fun b hb => s b (List.mem_append_right _ hb)
      exact ⟨v :: vs, .cons r r2, .cons q q2⟩
    · cases h
end
def keyB (e : DictEntry) (x : Str) : Bool := match e.key with
  | .str y _ => decide (y = x)
  | _ => false
theorem keyB_ok {e : DictEntry} {x : Str} (h : keyB e x = true) (z : Str) : e.key.isStr z = (z == x) ∧ e.refKey = false := by
  unfold keyB at h
  split at h
  · rename_i y t hk
    have e1 : y = x := of_decide_eq_true h
    subst e1
    refine ⟨?_, by unfold DictEntry.refKey; rw [hk]⟩
    rw [hk]
    show (y == z) = (z == y)
    exact Bool.beq_comm
  · cases h
def enG (g : GG) : List DictEntry → List (D × D) → Bool
  | [], [] => true
  | e :: es, (.str k, d) :: kvs => keyB e k && daG g e.val d && enG g es kvs
  | _, _ => false
def enA (g : GG) : List DictEntry → List (D × D) → List Addr
  | e :: es, (_, d) :: kvs => daA g e.val d ++ enA g es kvs
  | _, _ => []
theorem enG_ok {g : GG} {as : List Addr} : ∀ {es : List DictEntry} {kvs : List (D × D)}, enG g es kvs = true → (∀ b ∈ enA g es kvs, b ∈ as) →
    ∃ (ks : List Str) (vs : List V) (ds : List D), ks.length = vs.length ∧ DaKAll (He.frG g as) vs ds ∧ kvs = (ks.map PyData.str).zip ds ∧ (es.any (·.refKey)) = false ∧
    ∀ z : Str, match (ks.zip vs).lookup z with
      | some v => ∃ e, es.find? (·.key.isStr z) = some e ∧ RelV v e.val
      | none => es.find? (·.key.isStr z) = none
  | [], [], _, _ => ⟨[], [], [], rfl, .nil, rfl, rfl, fun _ => rfl⟩
  | [], _ :: _, h, _ => by cases h
  | _ :: _, [], h, _ => by cases h
  | e :: es, (kd, d) :: kvs, h, s => by
    cases kd <;> try (unfold enG at h; cases h; done)
    rename_i k
    unfold enG at h
    simp only [Bool.and_eq_true] at h
    obtain ⟨⟨h1, h2⟩, h3⟩ := h
    unfold enA at s
    obtain ⟨ks, vs, ds, i1, i2, rfl, i4, i5⟩ := enG_ok h3 fun b hb => s b (List.mem_append_right _ hb)
    obtain ⟨v, r, q⟩ := daG_ok d e.val h2 fun b hb => s b (List.mem_append_left _ hb)
    refine ⟨k :: ks, v :: vs, d :: ds, by simp [i1], .cons q i2, rfl, ?_, fun z => ?_⟩
    · rw [List.any_cons, i4, (keyB_ok h1 k).2]; rfl
    · rw [List.zip_cons_cons, List.lookup_cons, List.find?_cons, (keyB_ok h1 z).1]
      cases hz : z == k with
      | true => exact ⟨e, rfl, r⟩
      | false => exact i5 z
def dcG (g : GG) (u : Value) (kvs : List (D × D)) : Bool := match u with
  | .ref a => match g a with
    | some ⟨.type c, none, .dict es _, sl⟩ => decide (c = "dict") && sl.isEmpty && !(a == sysModules) && !kvs.isEmpty && enG g es.toList kvs
    | _ => false
  | _ => false
def dcA (g : GG) (u : Value) (kvs : List (D × D)) : List Addr := match u with
  | .ref a => a :: match g a with
    | some ⟨_, _, .dict es _, _⟩ => enA g es.toList kvs
    | _ => []
  | _ => []
/-- a dict's keys with their hashes -/
def dcO (g : GG) (u : Value) : Option (List (Option (Str × Int))) := match u with
  | .ref a => match g a with
    | some ⟨_, _, .dict es _, _⟩ => some (es.toList.map He.keyOf)
    | _ => none
  | _ => none
theorem dcG_ok {g : GG} {as : List Addr} {u : Value} {kvs : List (D × D)} {x : Str} {w : World} (hx : PySem.W.nsIn (He.frG g as) mainGlobals x = some (some u)) (h : dcG g u kvs = true) (ho : dcO g u = some (He.keysIn w.params (keysD kvs))) (s : ∀ b ∈ dcA g u kvs, b ∈ as) :
    ∃ a, u = .ref a ∧ DctK (He.frG g as) a kvs ∧ ∀ es n, (He.frG g as).lookup a = some ⟨.type "dict", none, .dict es n, #[]⟩ → PySem.W.KeysLit w.params es.toList := by
  unfold dcG at h
  split at h
  · rename_i a
    split at h
    · rename_i c es n sl hk
      simp only [Bool.and_eq_true, decide_eq_true_eq, Bool.not_eq_true'] at h
      obtain ⟨⟨⟨⟨h1, h2⟩, h3⟩, h4⟩, h5⟩ := h
      subst h1
      have e2 : sl = #[] := Array.isEmpty_iff.mp h2
      subst e2
      unfold dcA at s
      unfold dcO at ho
      dsimp only at s ho
      rw [hk] at s ho
      have lk : (He.frG g as).lookup a = _ := (frG_lk (g := g) (s a List.mem_cons_self)).trans hk
      obtain ⟨ks, vs, ds, i1, i2, i3, i4, i5⟩ := enG_ok h5 fun b hb => s b (List.mem_cons_of_mem _ hb)
      refine ⟨a, rfl, ⟨⟨x, es, n, ks, vs, ds, hx, lk, h3, ⟨i1, fun z => ?_⟩, i2, i3⟩, fun e => by rw [e] at h4; cases h4⟩, fun es' n' e => ?_⟩
      · have q := i5 z
        have ns : PySem.W.nsIn (He.frG g as) a z = match es.toList.find? (·.key.isStr z) with
            | some e => some (some e.val)
            | none => if es.toList.any (·.refKey) then none else some none := by
          unfold PySem.W.nsIn; rw [lk] <;> rfl
        rw [i4] at ns
        split
        · rename_i v hv
          rw [hv] at q
          obtain ⟨e, q1, q2⟩ := q
          rw [q1] at ns
          exact ⟨e.val, ns, q2⟩
        · rename_i hv
          rw [hv] at q
          rw [q] at ns
          exact ns
      · rw [lk] at e
        cases e
        exact He.keysLit_of (Option.some.inj ho)
    · cases h
  · cases h
/-- no dict that is not told of -/
def ndB (g : GG) (u : Value) : Bool := match u with
  | .ref a => (match g a with
    | some ⟨.type _, none, .dict es _, _⟩ => es.toList.isEmpty
    | _ => true)
  | _ => true
def mnB (g : GG) (u : Value) : Mn → Bool
  | .d r => fnB g u r
  | .c _ y => daG g u y && ndB g u
  | .t _ kvs => dcG g u kvs
  | .b _ id => match u with
    | .builtin i => decide (i = id)
    | _ => false
  | .k _ _ => true
  | .s _ => ndB g u
def mnA (g : GG) (u : Value) : Mn → List Addr
  | .d r => fnA g u
  | .c _ y => daA g u y
  | .t _ kvs => dcA g u kvs
  | _ => []
/-! ### the walk -/
def wkB (g : GG) : List DictEntry → List Mn → Bool
  | [], [] => true
  | e :: es, i :: is => keyB e i.nm && mnB g e.val i && wkB g es is
  | _, _ => false
def wkF (g : GG) : List DictEntry → List Mn → List He.FnW
  | e :: es, .d r :: is => fnO g e.val :: wkF g es is
  | _ :: es, _ :: is => wkF g es is
  | _, _ => []
def wkT (g : GG) : List DictEntry → List Mn → List (Option (List (Option (Str × Int))))
  | e :: es, .t x kvs :: is => dcO g e.val :: wkT g es is
  | e :: es, .k x ks :: is => dcO g e.val :: wkT g es is
  | _ :: es, _ :: is => wkT g es is
  | _, _ => []
def wkA (g : GG) : List DictEntry → List Mn → List Addr
  | e :: es, i :: is => mnA g e.val i ++ wkA g es is
  | _, _ => []
abbrev AlH : Type := Bool × List He.FnW × List (Option (List (Option (Str × Int))))
def obsH (its : List Mn) (g : GG) : AlH := match g mainGlobals with
  | some ⟨_, _, .dict es _, _⟩ => (wkB g es.toList its, wkF g es.toList its, wkT g es.toList its)
  | _ => (false, [], [])
def valH (its : List Mn) (p : Program) (w : World) : AlH := (true, (its.filterMap Mn.row).map fun r => (DR.defD p r).val, (its.filterMap Mn.tab).map fun ks => some (He.keysIn w.params ks))
def asH (its : List Mn) (g : GG) : List Addr := mainGlobals :: match g mainGlobals with
  | some ⟨_, _, .dict es _, _⟩ => wkA g es.toList its
  | _ => []
/-- an entry is what is told of it -/
structure Told (g : GG) (as : List Addr) (p : Program) (w : World) (e : DictEntry) (i : Mn) : Prop where
  key : keyB e i.nm = true
  is : mnB g e.val i = true
  fn : ∀ r, i = .d r → fnO g e.val = (DR.defD p r).val
  tb : ∀ ks, i.tab = some ks → dcO g e.val = some (He.keysIn w.params ks)
  sub : ∀ b ∈ mnA g e.val i, b ∈ as
inductive All2 (R : DictEntry → Mn → Prop) : List DictEntry → List Mn → Prop
  | nil : All2 R [] []
  | cons {e : DictEntry} {i : Mn} {es : List DictEntry} {is : List Mn} : R e i → All2 R es is → All2 R (e :: es) (i :: is)
theorem walk_told {g : GG} {as : List Addr} {p : Program} {w : World} : ∀ {es : List DictEntry} {is : List Mn}, wkB g es is = true → wkF g es is = (is.filterMap Mn.row).map (fun r => (DR.defD p r).val) →
    wkT g es is = (is.filterMap Mn.tab).map (fun ks => some (He.keysIn w.params ks)) → (∀ b ∈ wkA g es is, b ∈ as) → All2 (Told g as p w) es is
  | [], [], _, _, _, _ => .nil
  | [], _ :: _, h, _, _, _ => by cases h
  | _ :: _, [], h, _, _, _ => by cases h
  | e :: es, i :: is, h, hf, ht, s => by
    unfold wkB at h
    simp only [Bool.and_eq_true] at h
    obtain ⟨⟨h1, h2⟩, h3⟩ := h
    unfold wkA at s
    have s1 : ∀ b ∈ mnA g e.val i, b ∈ as := fun b hb => s b (List.mem_append_left _ hb)
    have s2 : ∀ b ∈ wkA g es is, b ∈ as := fun b hb => s b (List.mem_append_right _ hb)
    cases i with
    | d r =>
      have hf' : fnO g e.val :: wkF g es is = (DR.defD p r).val :: (is.filterMap Mn.row).map (fun r => (DR.defD p r).val) := hf
      injection hf' with f1 f2
      exact .cons ⟨h1, h2, fun r' e => (by cases e; exact f1), fun _ e => (by cases e), s1⟩ (walk_told h3 f2 ht s2)
    | t x kvs =>
      have ht' : dcO g e.val :: wkT g es is = some (He.keysIn w.params (keysD kvs)) :: (is.filterMap Mn.tab).map (fun ks => some (He.keysIn w.params ks)) := ht
      injection ht' with f1 f2
      exact .cons ⟨h1, h2, fun _ e => (by cases e), fun _ e => (by cases e; exact f1), s1⟩ (walk_told h3 hf f2 s2)
    | k x ks =>
      have ht' : dcO g e.val :: wkT g es is = some (He.keysIn w.params ks) :: (is.filterMap Mn.tab).map (fun ks => some (He.keysIn w.params ks)) := ht
      injection ht' with f1 f2
      exact .cons ⟨h1, h2, fun _ e => (by cases e), fun _ e => (by cases e; exact f1), s1⟩ (walk_told h3 hf f2 s2)
    | c x y => exact .cons ⟨h1, h2, fun _ e => (by cases e), fun _ e => (by cases e), s1⟩ (walk_told h3 hf ht s2)
    | b x y => exact .cons ⟨h1, h2, fun _ e => (by cases e), fun _ e => (by cases e), s1⟩ (walk_told h3 hf ht s2)
    | s x => exact .cons ⟨h1, h2, fun _ e => (by cases e), fun _ e => (by cases e), s1⟩ (walk_told h3 hf ht s2)
section
variable {g : GG} {as : List Addr} {p : Program} {w : World}
theorem All2.norefs : ∀ {es : List DictEntry} {is : List Mn}, All2 (Told g as p w) es is → es.any (·.refKey) = false
  | _, _, .nil => rfl
  | _, _, .cons h t => by rw [List.any_cons, (keyB_ok h.key "").2, All2.norefs t]; rfl
theorem All2.find : ∀ {es : List DictEntry} {is : List Mn}, All2 (Told g as p w) es is → (is.map Mn.nm).Nodup → ∀ i ∈ is, ∃ e, es.find? (·.key.isStr i.nm) = some e ∧ Told g as p w e i
  | _, _, .nil, _, i, hi => by cases hi
  | _, _, .cons (e := e) (i := j) (es := es) (is := is) h t, nd, i, hi => by
    rw [List.map_cons, List.nodup_cons] at nd
    rw [List.find?_cons, (keyB_ok h.key i.nm).1]
    by_cases z : i.nm = j.nm
    · rcases List.mem_cons.mp hi with y | y
      · subst y; simp; exact h
      · exact absurd (List.mem_map.mpr ⟨i, y, z⟩) nd.1
    · have z' : (i.nm == j.nm) = false := by rw [beq_eq_false_iff_ne]; exact z
      rw [z']
      rcases List.mem_cons.mp hi with y | y
      · subst y; exact absurd rfl z
      · exact All2.find t nd.2 i y
theorem All2.free : ∀ {es : List DictEntry} {is : List Mn}, All2 (Told g as p w) es is → ∀ x, x ∉ is.map Mn.nm → es.find? (·.key.isStr x) = none
  | _, _, .nil, _, _ => rfl
  | _, _, .cons (e := e) (i := j) h t, x, hx => by
    rw [List.map_cons, List.mem_cons, not_or] at hx
    have z' : (x == j.nm) = false := by rw [beq_eq_false_iff_ne]; exact hx.1
    rw [List.find?_cons, (keyB_ok h.key x).1, z']
    exact All2.free t x hx.2
theorem All2.of_find : ∀ {es : List DictEntry} {is : List Mn}, All2 (Told g as p w) es is → ∀ {f : DictEntry → Bool} {e : DictEntry}, es.find? f = some e → ∃ i ∈ is, Told g as p w e i
  | _, _, .nil, _, _, h => by cases h
  | _, _, .cons (i := j) h t, f, e, q => by
    rw [List.find?_cons] at q
    split at q
    · cases q; exact ⟨j, List.mem_cons_self, h⟩
    · obtain ⟨i, hi, y⟩ := All2.of_find t q
      exact ⟨i, List.mem_cons_of_mem _ hi, y⟩
end
/-- what the head tells of the module -/
structure SaysH (its : List Mn) (p : Program) (w : World) (K : PySem.W.Frag) : Prop where
  dfs : ∀ r, Mn.d r ∈ its → ∃ a fd, PySem.W.nsIn K mainGlobals (Str.ofString r.nm) = some (some (.ref a)) ∧ FunR p r K a fd
  cns : ∀ c ∈ its.filterMap Mn.con, ∃ v u, PySem.W.nsIn K mainGlobals (Str.ofString c.1) = some (some u) ∧ RelV v u ∧ ∀ H A, Da K H A v c.2
  blt : ∀ x id, Mn.b x id ∈ its → PySem.W.nsIn K mainGlobals (Str.ofString x) = some (some (.builtin id))
  free : ∀ x, x ∉ its.map Mn.nm → PySem.W.nsIn K mainGlobals x = some none
  lit : LitOk K w
theorem saysH_of {its : List Mn} {p : Program} {w : World} {g : GG} (nd : (its.map Mn.nm).Nodup) (e : obsH its g = valH its p w) : SaysH its p w (He.frG g (asH its g)) := by
  cases hg : g mainGlobals with
  | none => unfold obsH at e; rw [hg] at e; cases e
  | some o =>
    obtain ⟨oc, od, dt, osl⟩ := o
    cases dt with
    | dict es n =>
      have e1 : (wkB g es.toList its, wkF g es.toList its, wkT g es.toList its) = valH its p w := by
        unfold obsH at e; rw [hg] at e; exact e
      have eas : asH its g = mainGlobals :: wkA g es.toList its := by unfold asH; rw [hg]
      obtain ⟨a1, a2⟩ := Prod.mk.inj e1
      obtain ⟨a2, a3⟩ := Prod.mk.inj a2
      have T : All2 (Told g (asH its g) p w) es.toList its := walk_told a1 a2 a3 fun b hb => by rw [eas]; exact List.mem_cons_of_mem _ hb
      have lk : (He.frG g (asH its g)).lookup mainGlobals = some ⟨oc, od, .dict es n, osl⟩ := (frG_lk (g := g) (by rw [eas]; exact List.mem_cons_self)).trans hg
      have ns : ∀ x, PySem.W.nsIn (He.frG g (asH its g)) mainGlobals x = match es.toList.find? (·.key.isStr x) with
          | some e => some (some e.val)
          | none => some none := fun x => by
        unfold PySem.W.nsIn
        rw [lk]
        dsimp only
        rw [T.norefs]
        cases es.toList.find? (·.key.isStr x) <;> rfl
      have at_ : ∀ i ∈ its, ∃ e, PySem.W.nsIn (He.frG g (asH its g)) mainGlobals i.nm = some (some e.val) ∧ Told g (asH its g) p w e i := fun i hi => by
        obtain ⟨e, h1, h2⟩ := T.find nd i hi
        refine ⟨e, ?_, h2⟩
        rw [ns, h1]
      refine ⟨fun r hr => ?_, fun c hc => ?_, fun x id hx => ?_, fun x hx => ?_, fun x a es' n' hx hk => ?_⟩
      · obtain ⟨e, h1, t⟩ := at_ _ hr
        obtain ⟨a, fd, hu, F⟩ := fnB_ok t.is (t.fn r rfl) t.sub
        rw [hu] at h1
        exact ⟨a, fd, h1, F⟩
      · obtain ⟨i, hi, hc⟩ := List.mem_filterMap.mp hc
        obtain ⟨e, h1, t⟩ := at_ _ hi
        cases i with
        | c x y =>
          cases hc
          have tis : (daG g e.val y && ndB g e.val) = true := t.is
          rw [Bool.and_eq_true] at tis
          obtain ⟨v, r, q⟩ := daG_ok y e.val tis.1 t.sub
          exact ⟨v, _, h1, r, fun H A => DaK.da _ _ q⟩
        | t x kvs =>
          cases hc
          obtain ⟨a, hu, q, _⟩ := dcG_ok h1 t.is (t.tb _ rfl) t.sub
          exact ⟨.ref a, _, h1, by rw [hu]; rfl, fun H A => .dctK q⟩
        | _ => cases hc
      · obtain ⟨e, h1, t⟩ := at_ _ hx
        have tis : (match e.val with
          | .builtin i => decide (i = id)
          | _ => false) = true := t.is
        split at tis
        · rename_i i hi
          rw [hi, of_decide_eq_true tis] at h1
          exact h1
        · cases tis
      · rw [ns, T.free x hx]
      · rw [ns] at hx
        cases hf : es.toList.find? (·.key.isStr x) with
        | none => rw [hf] at hx; cases hx
        | some e =>
          rw [hf] at hx
          have ev : e.val = .ref a := by simpa using hx
          obtain ⟨i, hi, t⟩ := T.of_find hf
          have ga : g a = some ⟨.type "dict", none, .dict es' n', #[]⟩ := He.frG_at _ hk
          have nd1 : ndB g e.val = true → PySem.W.KeysLit w.params es'.toList := fun h => by
            unfold ndB at h
            rw [ev] at h
            dsimp only at h
            rw [ga] at h
            have : es'.toList = [] := by simpa using h
            rw [this]; trivial
          cases i with
          | d r =>
            have tis : fnB g e.val r = true := t.is
            unfold fnB at tis
            rw [ev] at tis
            dsimp only at tis
            rw [ga] at tis
            cases tis
          | c x y =>
            have tis : (daG g e.val y && ndB g e.val) = true := t.is
            rw [Bool.and_eq_true] at tis
            exact nd1 tis.2
          | t y kvs =>
            have nx : PySem.W.nsIn (He.frG g (asH its g)) mainGlobals x = some (some e.val) := by rw [ns, hf]
            obtain ⟨a', hu, q, l⟩ := dcG_ok nx t.is (t.tb _ rfl) t.sub
            rw [ev] at hu
            cases hu
            exact l _ _ hk
          | b x y =>
            have tis : (match e.val with
              | .builtin i => decide (i = y)
              | _ => false) = true := t.is
            rw [ev] at tis
            cases tis
          | k y ks =>
            have o := t.tb ks rfl
            unfold dcO at o
            rw [ev] at o
            dsimp only at o
            rw [ga] at o
            exact He.keysLit_of (Option.some.inj o)
          | s x => exact nd1 t.is
    | _ => unfold obsH at e; rw [hg] at e; cases e
def hookH (its : List Mn) (p : Program) (nd : (its.map Mn.nm).Nodup) : PySem.W.Hook where
  α := AlH
  obs := fun s => obsH its s.heap.get?
  val := fun w => valH its p w
  says := fun w h => ∃ K : PySem.W.Frag, K.In h ∧ SaysH its p w K
  of := fun _ _ e => ⟨_, He.frG_in, saysH_of nd e⟩
  keeps := fun _ _ _ ⟨K, hK, c⟩ k => ⟨K, PySem.W.Frag.In.keeps hK k, c⟩
theorem obsH_eq {its : List Mn} {g : GG} {s : Shared} (h : ∀ a, g a = s.heap.get? a) : obsH its g = obsH its s.heap.get? := by
  have e : g = s.heap.get? := funext h
  rw [e]
section
variable {rs : List DR} {cs : List (String × D)} {its : List Mn} {kb : List KE} {gc : Bool} {p : Program} {w : World} {K : PySem.W.Frag} {h h0 : Heap} {mg : Str → Option Value}
/-- the tables are those of the walk -/
structure MnOk (its : List Mn) (rs : List DR) (cs : List (String × D)) (gc : Bool) : Prop where
  rows : its.filterMap Mn.row = rs
  cons : its.filterMap Mn.con = cs
  gcd : gc = true → Mn.b "gcd" "math.gcd" ∈ its
  free : ∀ b ∈ biNames, Str.ofString b ∉ its.map Mn.nm
theorem row_mem {r : DR} (h : r ∈ its.filterMap Mn.row) : Mn.d r ∈ its := by
  obtain ⟨i, hi, e⟩ := List.mem_filterMap.mp h
  cases i <;> try (cases e; done)
  cases e; exact hi
theorem base_ofH (X : K.In h) (G : h.Ns mainGlobals mg) {CX : CXT} (o : MnOk its rs cs gc) (c : SaysH its p w K) : Base (fnsOf rs) (cs.map (·.1)) kb gc (gOf cs) CX w K mg := by
  refine ⟨fun hg => PySem.W.mg_of X G (c.blt _ _ (o.gcd hg)), c.lit, fun b hb => PySem.W.mg_none_of X G (c.free _ (o.free b hb)), fun x hx => ?_⟩
  rw [List.contains_iff_mem] at hx
  obtain ⟨q, hq, rfl⟩ := List.mem_map.mp hx
  have : ∃ d, cs.lookup q.1 = some d ∧ (q.1, d) ∈ cs := by
    clear hx o c
    induction cs with
    | nil => cases hq
    | cons z cs ih =>
      rw [List.lookup_cons]
      by_cases e : q.1 == z.1
      · rw [e]
        have e' : q.1 = z.1 := eq_of_beq e
        exact ⟨z.2, rfl, by rw [e']; exact List.mem_cons_self⟩
      · have e' : (q.1 == z.1) = false := by simpa using e
        rw [e']
        rcases List.mem_cons.mp hq with y | y
        · subst y; simp at e'
        · obtain ⟨i, h1, h2⟩ := ih y
          exact ⟨i, h1, List.mem_cons_of_mem _ h2⟩
  obtain ⟨d, e1, e2⟩ := this
  obtain ⟨v, u, g1, g2, g3⟩ := c.cns _ (by rw [o.cons]; exact e2)
  exact ⟨d, v, u, e1, PySem.W.mg_of X G g1, g2, g3⟩
theorem def_atH (X : K.In h) (G : h.Ns mainGlobals mg) (o : MnOk its rs cs gc) (c : SaysH its p w K) {r : DR} (hr : r ∈ rs) : ∃ a fd, mg (Str.ofString r.nm) = some (.ref a) ∧ FunR p r K a fd := by
  obtain ⟨a, fd, h1, h2⟩ := c.dfs r (row_mem (by rw [o.rows]; exact hr))
  exact ⟨a, fd, PySem.W.mg_of X G h1, h2⟩
theorem tabs_ofH (X : K.In h) (G : h.Ns mainGlobals mg) (o : MnOk its rs cs gc) (c : SaysH its p w K) (nd : (rs.map (·.nm)).Nodup) (hok : (rs.all fun r => r.ok (fnsOf rs) (cs.map (·.1)) kb gc p) = true)
    (hkb : ∀ q ∈ kb, ∃ r ∈ rs, r.nm = q.f ∧ ∀ a fd, FunR p r K a fd → ∀ (s : Shared) (us ws : List Value), K.In s.heap → us.length = q.n → ws.length = q.kns.length → ∃ bs : List Value, BindsTo s fd ⟨us, (q.kns.map Str.ofString).zip ws⟩ ((r.ps p).zip bs) ∧ ∀ vs zs : List V, Vals vs us → Vals zs ws → Vals (q.pm.map fun i => (vs ++ zs ++ q.dv.map V.int).getD i .non) bs) :
    Tabs (fnsOf rs) (cs.map (·.1)) kb gc (pfOf rs) K mg := by
  rw [List.all_eq_true] at hok
  refine ⟨fun f hf => ?_, fun q hq => ?_⟩
  · rw [List.contains_iff_mem] at hf
    obtain ⟨r, hr, rfl⟩ := List.mem_map.mp hf
    obtain ⟨hr, hd⟩ := List.mem_filter.mp hr
    obtain ⟨a, fd, e1, F⟩ := def_atH X G o c hr
    exact ⟨r.fn, _, fd, r.ps p, find_of nd hr, e1, DR.defS (hok r hr) F, DR.binds (hok r hr) F (by simpa using hd)⟩
  · rw [List.contains_iff_mem] at hq
    obtain ⟨r, hr, e, hb⟩ := hkb q hq
    obtain ⟨a, fd, e1, F⟩ := def_atH X G o c hr
    rw [← e]
    exact ⟨r.fn, _, fd, r.ps p, find_of nd hr, e1, DR.defS (hok r hr) F, hb _ fd F⟩
/-- the law's def over every base -/
theorem law_defH {k : Nat} {r : DR} (X : K.In h) (G : h.Ns mainGlobals mg) (o : MnOk its rs cs gc) (c : SaysH its p w K) (nd : (rs.map (·.nm)).Nodup) (hok : (rs.all fun r => r.ok (fnsOf rs) (cs.map (·.1)) kb gc p) = true)
    (hkb : ∀ q ∈ kb, ∃ r ∈ rs, r.nm = q.f ∧ ∀ a fd, FunR p r K a fd → ∀ (s : Shared) (us ws : List Value), K.In s.heap → us.length = q.n → ws.length = q.kns.length → ∃ bs : List Value, BindsTo s fd ⟨us, (q.kns.map Str.ofString).zip ws⟩ ((r.ps p).zip bs) ∧ ∀ vs zs : List V, Vals vs us → Vals zs ws → Vals (q.pm.map fun i => (vs ++ zs ++ q.dv.map V.int).getD i .non) bs)
    (hr : r ∈ rs) (hd : r.dfl = []) {x : Str} (hps : r.ps p = [x]) {fa : Addr} (hfa : mg (Str.ofString r.nm) = some (.ref fa)) :
    ∃ fd : FuncData, (∀ (s : Shared) (v : Value), BindsTo s fd ⟨[v], []⟩ [(x, v)]) ∧
      ∀ base : Heap, K.In base → base.Ns mainGlobals mg → FnG p w K mg base CX0 k fa fd [x] (SpK (fun _ => XF) K 1 (runF (pfOf rs) (gOf cs) k r.nm)) := by
  obtain ⟨a, fd, e1, F⟩ := def_atH X G o c hr
  have e : fa = a := by
    have := hfa.symm.trans e1
    cases this; rfl
  subst e
  have hokr := List.all_eq_true.mp hok r hr
  refine ⟨fd, DR.bind1 hokr F hd hps, fun base hk hn => ?_⟩
  have L := (levels (P := p) (w := w) (base := base) (G := gOf cs) excW0 (base_ofH (kb := kb) X G o c) (tabs_ofH X G o c nd hok hkb) k).2.2 r.nm r.fn _ fd _ (find_of nd hr) (DR.defS hokr F)
  rw [hps] at L
  exact L
end
end Sx
set_option Elab.async false
set_option linter.all false
set_option maxRecDepth 100000
set_option maxHeartbeats 1000000
/-! Sx, part R: plain: the reading is run by rewriting. -/
namespace Sx
open PySem PySem.Spec
/-- one behind another -/
def comp {t u w : Type} (f : t → Store → Out u) (g : u → Store → Out w) : t → Store → Out w := fun a S => (f a S).bind g
@[simp] theorem comp_app {t u w : Type} (f : t → Store → Out u) (g : u → Store → Out w) (a : t) (S : Store) : comp f g a S = (f a S).bind g := rfl
/-- it ends well -/
def Ok {t : Type} (o : Out t) (Q : t → Store → Prop) : Prop := ∃ a S, o = .ok a S ∧ Q a S
def okK {t u : Type} (f : t → Store → Out u) (Q : u → Store → Prop) : t → Store → Prop := fun a S => Ok (f a S) Q
@[simp] theorem okK_app {t u : Type} (f : t → Store → Out u) (Q : u → Store → Prop) (a : t) (S : Store) : okK f Q a S = Ok (f a S) Q := rfl
@[simp] theorem ok_ok {t : Type} {a : t} {S : Store} {Q : t → Store → Prop} : Ok (.ok a S) Q = Q a S := by
  refine propext ⟨fun ⟨b, T, e, q⟩ => ?_, fun q => ⟨a, S, rfl, q⟩⟩
  cases e; exact q
@[simp] theorem ok_bind {t u : Type} {o : Out t} {f : t → Store → Out u} {Q : u → Store → Prop} : Ok (o.bind f) Q = Ok o (okK f Q) := by
  refine propext ⟨fun ⟨b, T, e, q⟩ => ?_, fun ⟨a, S, e, b, T, e2, q⟩ => ?_⟩
  · cases o with
    | ok a S => exact ⟨a, S, rfl, b, T, e, q⟩
    | exc x S => cases e
    | bad => cases e
  · subst e; exact ⟨b, T, e2, q⟩
theorem Ok.imp {t : Type} {o : Out t} {Q Q' : t → Store → Prop} (h : Ok o Q) (k : ∀ a S, Q a S → Q' a S) : Ok o Q' := let ⟨a, S, e, q⟩ := h; ⟨a, S, e, k a S q⟩
theorem Ok.eq {t : Type} {o : Out t} {a : t} {S : Store} (h : o = .ok a S) : Ok o fun b T => b = a ∧ T = S := ⟨a, S, h, rfl, rfl⟩
theorem Ok.to {t : Type} {o : Out t} {a : t} {S : Store} (h : Ok o fun b T => b = a ∧ T = S) : o = .ok a S := by
  obtain ⟨b, T, e, rfl, rfl⟩ := h
  exact e
@[simp] theorem bind_assoc' {t u w : Type} (o : Out t) (f : t → Store → Out u) (g : u → Store → Out w) : (o.bind f).bind g = o.bind (comp f g) := bind_assoc o f g
section
variable (C : Fns) (G : String → Option D) (e : Ev) (S : Store)
def kTup (rs : List R) (S1 : Store) : Out R := lift ((pureDs rs).bind fun ds => if lenFits ds.length then some (.d (.tuple ds)) else none) S1
def kLst (rs : List R) (S1 : Store) : Out R := lift ((pureDs rs).bind fun ds => if lenFits ds.length then some (.d (.list ds)) else none) S1
noncomputable def kE (b : CE) (k : R → R → Store → Out R) (x : R) (S1 : Store) : Out R := (dE C G b e S1).bind (k x)
@[simp] theorem kE_app (b : CE) (k : R → R → Store → Out R) (x : R) : kE C G e b k x S = (dE C G b e S).bind (k x) := rfl
noncomputable def kEB (b : CE) (k : R → R → Store → Out Bool) (x : R) (S1 : Store) : Out Bool := (dE C G b e S1).bind (k x)
@[simp] theorem kEB_app (b : CE) (k : R → R → Store → Out Bool) (x : R) : kEB C G e b k x S = (dE C G b e S).bind (k x) := rfl
def kBop (op : Bop) (x y : R) (S2 : Store) : Out R := lift ((asW x S2).bind fun p => (asW y S2).bind fun q => (opB op p q).map R.d) S2
def kCmp (op : Cop) (x y : R) (S2 : Store) : Out R := lift ((asD x S2).bind fun p => (asD y S2).bind fun q => (cmpD op p q).map fun b => R.d (.bool b)) S2
def kCmpT (op : Cop) (x y : R) (S2 : Store) : Out Bool := lift ((asD x S2).bind fun p => (asD y S2).bind fun q => cmpD op p q) S2
def kNeg (x : R) (S1 : Store) : Out R := match x with
    | .d (.int i) => .ok (.d (.int (-i))) S1
    | _ => .bad
@[simp] theorem kNeg_i (i : Int) : kNeg (.d (.int i)) S = .ok (.d (.int (-i))) S := rfl
def kNot (x : R) (S1 : Store) : Out R := lift ((tru x S1).map fun b => R.d (.bool (!b))) S1
def kTru (x : R) (S1 : Store) : Out Bool := lift (tru x S1) S1
def kNotT (k : Bool) (S1 : Store) : Out Bool := .ok (!k) S1
noncomputable def kIf (f g : Ev → Store → Out R) (k : Bool) (S1 : Store) : Out R := if k then f e S1 else g e S1
@[simp] theorem kIf_t (f g : Ev → Store → Out R) : kIf e f g true S = f e S := rfl
@[simp] theorem kIf_f (f g : Ev → Store → Out R) : kIf e f g false S = g e S := rfl
theorem kIf_d (f g : Ev → Store → Out R) (k : Bool) : kIf e f g k S = if k then f e S else g e S := rfl
noncomputable def kIfT (f g : Ev → Store → Out Bool) (k : Bool) (S1 : Store) : Out Bool := if k then f e S1 else g e S1
@[simp] theorem kIfT_t (f g : Ev → Store → Out Bool) : kIfT e f g true S = f e S := rfl
@[simp] theorem kIfT_f (f g : Ev → Store → Out Bool) : kIfT e f g false S = g e S := rfl
theorem kIfT_d (f g : Ev → Store → Out Bool) (k : Bool) : kIfT e f g k S = if k then f e S else g e S := rfl
noncomputable def kIfS (f g : Ev → Store → Out (Fl × Ev)) (k : Bool) (S1 : Store) : Out (Fl × Ev) := if k then f e S1 else g e S1
@[simp] theorem kIfS_t (f g : Ev → Store → Out (Fl × Ev)) : kIfS e f g true S = f e S := rfl
@[simp] theorem kIfS_f (f g : Ev → Store → Out (Fl × Ev)) : kIfS e f g false S = g e S := rfl
theorem kIfS_d (f g : Ev → Store → Out (Fl × Ev)) (k : Bool) : kIfS e f g k S = if k then f e S else g e S := rfl
noncomputable def kCh (op op2 : Cop) (c : CE) (x y : R) (S2 : Store) : Out R := (lift ((asD x S2).bind fun p => (asD y S2).bind fun q => cmpD op p q) S2).bind (kIf e (fun e S3 => (dE C G c e S3).bind (kCmp op2 y)) fun _ S3 => .ok (.d (.bool false)) S3)
noncomputable def kChT (op op2 : Cop) (c : CE) (x y : R) (S2 : Store) : Out Bool := (lift ((asD x S2).bind fun p => (asD y S2).bind fun q => cmpD op p q) S2).bind (kIfT e (fun e S3 => (dE C G c e S3).bind (kCmpT op2 y)) fun _ S3 => .ok false S3)
def kCall (f : String) (rs : List R) (S1 : Store) : Out R := C f rs S1
@[simp] theorem kCall_app (f : String) (rs : List R) : kCall C f rs S = C f rs S := rfl
noncomputable def kCk (q : KE) (ks : List CE) (rs : List R) (S1 : Store) : Out R := (dL C G ks e S1).bind fun qs S2 => C q.f (q.pick rs qs) S2
def kCk2 (q : KE) (rs qs : List R) (S2 : Store) : Out R := C q.f (q.pick rs qs) S2
@[simp] theorem kCk2_app (q : KE) (rs qs : List R) : kCk2 C q rs qs S = C q.f (q.pick rs qs) S := rfl
@[simp] theorem kCk_app (q : KE) (ks : List CE) (rs : List R) : kCk C G e q ks rs S = (dL C G ks e S).bind (kCk2 C q rs) := rfl
def kBi (f : Bi) (rs : List R) (S1 : Store) : Out R := lift ((asDs S1 rs).bind fun ds => (biD f ds).map R.d) S1
def kBiT (f : Bi) (rs : List R) (S1 : Store) : Out Bool := lift ((asDs S1 rs).bind fun ds => (biD f ds).bind truD) S1
def kIsi (t : Ty) (x : R) (S1 : Store) : Out R := lift ((asD x S1).map fun p => R.d (.bool (tyOf p t))) S1
def kIsiT (t : Ty) (x : R) (S1 : Store) : Out Bool := lift ((asD x S1).map fun p => tyOf p t) S1
def kIx (x y : R) (S2 : Store) : Out R := lift ((asD x S2).bind fun p => (asD y S2).bind fun q => (ixD p q).map R.d) S2
def kIxT (x y : R) (S2 : Store) : Out Bool := lift ((asD x S2).bind fun p => (asD y S2).bind fun q => (ixD p q).bind truD) S2
noncomputable def kSl (lo hi : CE) (x : R) (S1 : Store) : Out R := (dO C G lo e S1).bind fun l S2 => (dO C G hi e S2).bind fun h S3 => lift ((asD x S3).bind fun p => (slD p l h).map R.d) S3
noncomputable def kSl2 (hi : CE) (x : R) (l : Option Int) (S2 : Store) : Out R := (dO C G hi e S2).bind fun h S3 => lift ((asD x S3).bind fun p => (slD p l h).map R.d) S3
def kSl3 (x : R) (l h : Option Int) (S3 : Store) : Out R := lift ((asD x S3).bind fun p => (slD p l h).map R.d) S3
@[simp] theorem kSl_app (lo hi : CE) (x : R) : kSl C G e lo hi x S = (dO C G lo e S).bind (kSl2 C G e hi x) := rfl
@[simp] theorem kSl2_app (hi : CE) (x : R) (l : Option Int) : kSl2 C G e hi x l S = (dO C G hi e S).bind (kSl3 x l) := rfl
def kRev (x : R) (S1 : Store) : Out R := lift ((asD x S1).bind fun p => (revD p).map R.d) S1
noncomputable def kApp (b : CE) (x : R) (S1 : Store) : Out R := (lift (cellOf x S1) S1).bind fun _ S2 => (dE C G b e S2).bind fun y S3 => appD x y S3
noncomputable def kApp2 (b : CE) (x : R) (l : List D) (S2 : Store) : Out R := (dE C G b e S2).bind (appD x)
noncomputable def kPopi (b : CE) (x : R) (S1 : Store) : Out R := (lift (cellOf x S1) S1).bind fun _ S2 => (dE C G b e S2).bind fun y S3 => popiD x y S3
noncomputable def kPopi2 (b : CE) (x : R) (l : List D) (S2 : Store) : Out R := (dE C G b e S2).bind (popiD x)
@[simp] theorem kPopi_app (b : CE) (x : R) : kPopi C G e b x S = (lift (cellOf x S) S).bind (kPopi2 C G e b x) := rfl
@[simp] theorem kPopi2_app (b : CE) (x : R) (l : List D) : kPopi2 C G e b x l S = (dE C G b e S).bind (popiD x) := rfl
@[simp] theorem kApp_app (b : CE) (x : R) : kApp C G e b x S = (lift (cellOf x S) S).bind (kApp2 C G e b x) := rfl
@[simp] theorem kApp2_app (b : CE) (x : R) (l : List D) : kApp2 C G e b x l S = (dE C G b e S).bind (appD x) := rfl
def kInt (x : R) (S1 : Store) : Out (Option Int) := lift ((intR x).map some) S1
def kIntN (x : R) (S1 : Store) : Out (Option Int) := lift ((intR x).map fun n => some (-n)) S1
noncomputable def kO (b : CE) (k : R → R → Store → Out (Option Int)) (x : R) (S1 : Store) : Out (Option Int) := (dE C G b e S1).bind (k x)
@[simp] theorem kO_app (b : CE) (k : R → R → Store → Out (Option Int)) (x : R) : kO C G e b k x S = (dE C G b e S).bind (k x) := rfl
def kBopO (op : Bop) (x y : R) (S2 : Store) : Out (Option Int) := lift ((asW x S2).bind fun p => (asW y S2).bind fun q => (opB op p q).bind fun z => (intR (.d z)).map some) S2
def kIxO (x y : R) (S2 : Store) : Out (Option Int) := lift ((asD x S2).bind fun p => (asD y S2).bind fun q => (ixD p q).bind fun z => (intR (.d z)).map some) S2
def kCallO (f : String) (rs : List R) (S1 : Store) : Out (Option Int) := (C f rs S1).bind kInt
@[simp] theorem kCallO_app (f : String) (rs : List R) : kCallO C f rs S = (C f rs S).bind kInt := rfl
def kCallT (f : String) (rs : List R) (S1 : Store) : Out Bool := (C f rs S1).bind kTru
@[simp] theorem kCallT_app (f : String) (rs : List R) : kCallT C f rs S = (C f rs S).bind kTru := rfl
noncomputable def kL (as : List CE) (x : R) (S1 : Store) : Out (List R) := (dL C G as e S1).bind fun xs S2 => .ok (x :: xs) S2
def kL2 (x : R) (xs : List R) (S2 : Store) : Out (List R) := .ok (x :: xs) S2
@[simp] theorem kL_app (as : List CE) (x : R) : kL C G e as x S = (dL C G as e S).bind (kL2 x) := rfl
@[simp] theorem kL2_app (x : R) (xs : List R) : kL2 x xs S = .ok (x :: xs) S := rfl
noncomputable def kAnd (as : List CE) (x : R) (S1 : Store) : Out R := (lift (tru x S1) S1).bind fun k S2 => if k then dAnd C G as e S2 else .ok x S2
@[simp] theorem kAnd_app (as : List CE) (x : R) : kAnd C G e as x S = (lift (tru x S) S).bind (kIf e (dAnd C G as) fun _ S2 => .ok x S2) := rfl
noncomputable def kOr (as : List CE) (x : R) (S1 : Store) : Out R := (lift (tru x S1) S1).bind fun k S2 => if k then .ok x S2 else dOr C G as e S2
@[simp] theorem kOr_app (as : List CE) (x : R) : kOr C G e as x S = (lift (tru x S) S).bind (kIf e (fun _ S2 => .ok x S2) (dOr C G as)) := rfl
def kRngL (rs : List R) (S1 : Store) : Out R := lift ((asDs S1 rs).bind fun ds => (rngL ds).map R.d) S1
def kSs (x : R) (S1 : Store) : Out R := lift ((asDs S1 [x]).bind fun ds => (ssD ds).map R.d) S1
def kRng (rs : List R) (S1 : Store) : Out (List D) := lift ((asDs S1 rs).bind rngD) S1
def kZip (rs : List R) (S1 : Store) : Out (List D) := lift ((pureDs rs).bind zipD) S1
def kEnum (x : R) (S1 : Store) : Out (List D) := lift ((pureD x).bind enumD) S1
def kItems (x : R) (S1 : Store) : Out (List D) := lift ((pureD x).bind itemsD) S1
def kSeq (rs : List R) (S1 : Store) : Out (List D) := lift ((pureDs rs).bind fun ds => if lenFits ds.length then some ds else none) S1
noncomputable def kI (b : CE) (k : R → R → Store → Out (List D)) (x : R) (S1 : Store) : Out (List D) := (dE C G b e S1).bind (k x)
@[simp] theorem kI_app (b : CE) (k : R → R → Store → Out (List D)) (x : R) : kI C G e b k x S = (dE C G b e S).bind (k x) := rfl
def kIxI (x y : R) (S2 : Store) : Out (List D) := lift ((asD x S2).bind fun p => (asD y S2).bind fun q => (ixD p q).bind itemsD) S2
def kBopI (op : Bop) (x y : R) (S2 : Store) : Out (List D) := lift ((asW x S2).bind fun p => (asW y S2).bind fun q => (opB op p q).bind itemsD) S2
noncomputable def kSlI (lo hi : CE) (x : R) (S1 : Store) : Out (List D) := (dO C G lo e S1).bind fun l S2 => (dO C G hi e S2).bind fun h S3 => lift ((asD x S3).bind fun p => (slD p l h).bind itemsD) S3
noncomputable def kSlI2 (hi : CE) (x : R) (l : Option Int) (S2 : Store) : Out (List D) := (dO C G hi e S2).bind fun h S3 => lift ((asD x S3).bind fun p => (slD p l h).bind itemsD) S3
def kSlI3 (x : R) (l h : Option Int) (S3 : Store) : Out (List D) := lift ((asD x S3).bind fun p => (slD p l h).bind itemsD) S3
@[simp] theorem kSlI_app (lo hi : CE) (x : R) : kSlI C G e lo hi x S = (dO C G lo e S).bind (kSlI2 C G e hi x) := rfl
@[simp] theorem kSlI2_app (hi : CE) (x : R) (l : Option Int) : kSlI2 C G e hi x l S = (dO C G hi e S).bind (kSlI3 x l) := rfl
def kCallI (f : String) (rs : List R) (S1 : Store) : Out (List D) := (C f rs S1).bind kItems
@[simp] theorem kCallI_app (f : String) (rs : List R) : kCallI C f rs S = (C f rs S).bind kItems := rfl
noncomputable def kSet (b : CE) (r x : R) (S1 : Store) : Out Ev := (dE C G b e S1).bind fun y S2 => (setD x y r S2).bind fun _ S3 => .ok e S3
def kSet2 (r x y : R) (S2 : Store) : Out Ev := (setD x y r S2).bind fun _ S3 => .ok e S3
def kSet3 (_ : Unit) (S2 : Store) : Out Ev := .ok e S2
@[simp] theorem kSet_app (b : CE) (r x : R) : kSet C G e b r x S = (dE C G b e S).bind (kSet2 e r x) := rfl
@[simp] theorem kSet2_app (r x y : R) : kSet2 e r x y S = (setD x y r S).bind (kSet3 e) := rfl
@[simp] theorem kSet3_app (u : Unit) : kSet3 e u S = .ok e S := rfl
noncomputable def kAs (ts : List Tg) (ds : List D) (e1 : Ev) (S1 : Store) : Out Ev := dAs C G ts ds e1 S1
@[simp] theorem kAs_app (ts : List Tg) (ds : List D) : kAs C G ts ds e S = dAs C G ts ds e S := rfl
noncomputable def kAsg (t : Tg) (r : R) (S1 : Store) : Out (Fl × Ev) := (dA C G t r e S1).bind fun e1 S2 => .ok (.nx, e1) S2
def kNx (e1 : Ev) (S2 : Store) : Out (Fl × Ev) := .ok (.nx, e1) S2
@[simp] theorem kAsg_app (t : Tg) (r : R) : kAsg C G e t r S = (dA C G t r e S).bind kNx := rfl
@[simp] theorem kNx_app : kNx e S = .ok (.nx, e) S := rfl
def kPar (is : List Nat) (rs : List R) (S1 : Store) : Out (Fl × Ev) := (lift (setAll is rs e) S1).bind kNx
@[simp] theorem kPar_app (is : List Nat) (rs : List R) : kPar e is rs S = (lift (setAll is rs e) S).bind kNx := rfl
def kEx (_ : R) (S1 : Store) : Out (Fl × Ev) := .ok (.nx, e) S1
@[simp] theorem kEx_app (r : R) : kEx e r S = .ok (.nx, e) S := rfl
def kRet (r : R) (S1 : Store) : Out (Fl × Ev) := .ok (.rt r, e) S1
@[simp] theorem kRet_app (r : R) : kRet e r S = .ok (.rt r, e) S := rfl
noncomputable def forB (t : Tg) (body : List CS) (x : D) (e1 : Ev) (S2 : Store) : Out (Fl × Ev) := (dA C G t (.d x) e1 S2).bind fun e2 S3 => dB C G body e2 S3
noncomputable def kB (body : List CS) (e2 : Ev) (S3 : Store) : Out (Fl × Ev) := dB C G body e2 S3
@[simp] theorem kB_app (body : List CS) : kB C G body e S = dB C G body e S := rfl
theorem forB_app (t : Tg) (body : List CS) (x : D) : forB C G t body x e S = (dA C G t (.d x) e S).bind (kB C G body) := rfl
noncomputable def kFor (t : Tg) (body : List CS) (xs : List D) (S1 : Store) : Out (Fl × Ev) := forD (forB C G t body) xs e S1
@[simp] theorem kFor_app (t : Tg) (body : List CS) (xs : List D) : kFor C G e t body xs S = forD (forB C G t body) xs e S := rfl
@[simp] theorem dE_i (n : Int) : dE C G (.i n) e S = .ok (.d (.int n)) S := rfl
@[simp] theorem dE_s (x : String) : dE C G (.s x) e S = .ok (.d (.str (Str.ofString x))) S := rfl
@[simp] theorem dE_b (x : Bool) : dE C G (.b x) e S = .ok (.d (.bool x)) S := rfl
@[simp] theorem dE_non : dE C G .non e S = .ok (.d .none) S := rfl
@[simp] theorem dE_v (i : Nat) : dE C G (.v i) e S = getV e i S := rfl
@[simp] theorem dE_g (x : String) : dE C G (.g x) e S = match G x with | some y => .ok (.d y) S | none => .bad := rfl
@[simp] theorem dE_tup (es : List CE) : dE C G (.tup es) e S = (dL C G es e S).bind kTup := rfl
@[simp] theorem dE_lst (es : List CE) : dE C G (.lst es) e S = (dL C G es e S).bind kLst := rfl
@[simp] theorem dE_edict : dE C G .edict e S = .ok (.d (.dict [])) S := rfl
@[simp] theorem dE_new (a : CE) : dE C G (.new a) e S = (dE C G a e S).bind newD := rfl
@[simp] theorem dE_bop (op : Bop) (a b : CE) : dE C G (.bop op a b) e S = (dE C G a e S).bind (kE C G e b (kBop op)) := rfl
@[simp] theorem dE_neg (a : CE) : dE C G (.neg a) e S = (dE C G a e S).bind kNeg := rfl
@[simp] theorem dE_and (cs : List CE) : dE C G (.and cs) e S = dAnd C G cs e S := rfl
@[simp] theorem dE_or (cs : List CE) : dE C G (.or cs) e S = dOr C G cs e S := rfl
@[simp] theorem dE_not (a : CE) : dE C G (.not a) e S = (dE C G a e S).bind kNot := rfl
@[simp] theorem dE_cmp (op : Cop) (a b : CE) : dE C G (.cmp op a b) e S = (dE C G a e S).bind (kE C G e b (kCmp op)) := rfl
@[simp] theorem dE_chain (op op2 : Cop) (a b c : CE) : dE C G (.chain op op2 a b c) e S = (dE C G a e S).bind (kE C G e b (kCh C G e op op2 c)) := rfl
@[simp] theorem dE_ite (c a b : CE) : dE C G (.ite c a b) e S = (dT C G c e S).bind (kIf e (dE C G a) (dE C G b)) := rfl
@[simp] theorem dE_call (f : String) (as : List CE) : dE C G (.call f as) e S = (dL C G as e S).bind (kCall C f) := rfl
@[simp] theorem dE_callk (q : KE) (as ks : List CE) : dE C G (.callk q as ks) e S = (dL C G as e S).bind (kCk C G e q ks) := rfl
@[simp] theorem dE_bi (f : Bi) (as : List CE) : dE C G (.bi f as) e S = (dL C G as e S).bind (kBi f) := rfl
@[simp] theorem dE_isi (a : CE) (t : Ty) : dE C G (.isi a t) e S = (dE C G a e S).bind (kIsi t) := rfl
@[simp] theorem dE_ix (a b : CE) : dE C G (.ix a b) e S = (dE C G a e S).bind (kE C G e b kIx) := rfl
@[simp] theorem dE_sl (a lo hi : CE) : dE C G (.sl a lo hi) e S = (dE C G a e S).bind (kSl C G e lo hi) := rfl
@[simp] theorem dE_rev (a : CE) : dE C G (.rev a) e S = (dE C G a e S).bind kRev := rfl
@[simp] theorem dE_lc (elt : CE) (t : Tg) (it : CE) (ifs : List CE) (own : List Nat) : dE C G (.lc elt t it ifs own) e S = lcF (dI C G it) own (dA C G t) (dIfs C G ifs) (dE C G elt) e S := rfl
@[simp] theorem dE_app (a b : CE) : dE C G (.app a b) e S = (dE C G a e S).bind (kApp C G e b) := rfl
@[simp] theorem dE_popi (a b : CE) : dE C G (.popi a b) e S = (dE C G a e S).bind (kPopi C G e b) := rfl
@[simp] theorem dE_pop (a : CE) : dE C G (.pop a) e S = (dE C G a e S).bind popD := rfl
@[simp] theorem dO_nob : dO C G .nob e S = .ok none S := rfl
@[simp] theorem dO_i (n : Int) : dO C G (.i n) e S = .ok (some n) S := rfl
@[simp] theorem dO_v (i : Nat) : dO C G (.v i) e S = (getV e i S).bind kInt := rfl
@[simp] theorem dO_neg (a : CE) : dO C G (.neg a) e S = (dE C G a e S).bind kIntN := rfl
@[simp] theorem dO_bop (op : Bop) (a b : CE) : dO C G (.bop op a b) e S = (dE C G a e S).bind (kO C G e b (kBopO op)) := rfl
@[simp] theorem dO_ix (a b : CE) : dO C G (.ix a b) e S = (dE C G a e S).bind (kO C G e b kIxO) := rfl
@[simp] theorem dO_call (f : String) (as : List CE) : dO C G (.call f as) e S = (dL C G as e S).bind (kCallO C f) := rfl
@[simp] theorem dL_nil : dL C G [] e S = .ok [] S := rfl
@[simp] theorem dL_cons (a : CE) (as : List CE) : dL C G (a :: as) e S = (dE C G a e S).bind (kL C G e as) := rfl
@[simp] theorem dAnd_one (a : CE) : dAnd C G [a] e S = dE C G a e S := rfl
@[simp] theorem dAnd_cons (a b : CE) (as : List CE) : dAnd C G (a :: b :: as) e S = (dE C G a e S).bind (kAnd C G e (b :: as)) := rfl
@[simp] theorem dOr_one (a : CE) : dOr C G [a] e S = dE C G a e S := rfl
@[simp] theorem dOr_cons (a b : CE) (as : List CE) : dOr C G (a :: b :: as) e S = (dE C G a e S).bind (kOr C G e (b :: as)) := rfl
@[simp] theorem dT_and (cs : List CE) : dT C G (.and cs) e S = dAndT C G cs e S := rfl
@[simp] theorem dT_or (cs : List CE) : dT C G (.or cs) e S = dOrT C G cs e S := rfl
@[simp] theorem dT_ite (c a b : CE) : dT C G (.ite c a b) e S = (dT C G c e S).bind (kIfT e (dT C G a) (dT C G b)) := rfl
@[simp] theorem dT_not (a : CE) : dT C G (.not a) e S = (dT C G a e S).bind kNotT := rfl
@[simp] theorem dT_i (n : Int) : dT C G (.i n) e S = .ok (n != 0) S := rfl
@[simp] theorem dT_b (x : Bool) : dT C G (.b x) e S = .ok x S := rfl
@[simp] theorem dT_s (x : String) : dT C G (.s x) e S = lift (truD (.str (Str.ofString x))) S := rfl
@[simp] theorem dT_non : dT C G .non e S = .ok false S := rfl
@[simp] theorem dT_v (i : Nat) : dT C G (.v i) e S = (getV e i S).bind kTru := rfl
@[simp] theorem dT_cmp (op : Cop) (a b : CE) : dT C G (.cmp op a b) e S = (dE C G a e S).bind (kEB C G e b (kCmpT op)) := rfl
@[simp] theorem dT_chain (op op2 : Cop) (a b c : CE) : dT C G (.chain op op2 a b c) e S = (dE C G a e S).bind (kEB C G e b (kChT C G e op op2 c)) := rfl
@[simp] theorem dT_call (f : String) (as : List CE) : dT C G (.call f as) e S = (dL C G as e S).bind (kCallT C f) := rfl
noncomputable def kCkT (q : KE) (ks : List CE) (rs : List R) (S1 : Store) : Out Bool := (dL C G ks e S1).bind fun qs S2 => (C q.f (q.pick rs qs) S2).bind kTru
noncomputable def kCkT2 (q : KE) (rs qs : List R) (S2 : Store) : Out Bool := (C q.f (q.pick rs qs) S2).bind kTru
@[simp] theorem kCkT2_app (q : KE) (rs qs : List R) : kCkT2 C q rs qs S = (C q.f (q.pick rs qs) S).bind kTru := rfl
@[simp] theorem kCkT_app (q : KE) (ks : List CE) (rs : List R) : kCkT C G e q ks rs S = (dL C G ks e S).bind (kCkT2 C q rs) := rfl
@[simp] theorem dT_callk (q : KE) (as ks : List CE) : dT C G (.callk q as ks) e S = (dL C G as e S).bind (kCkT C G e q ks) := rfl
@[simp] theorem dT_bi (f : Bi) (as : List CE) : dT C G (.bi f as) e S = (dL C G as e S).bind (kBiT f) := rfl
@[simp] theorem dT_isi (a : CE) (t : Ty) : dT C G (.isi a t) e S = (dE C G a e S).bind (kIsiT t) := rfl
@[simp] theorem dT_ix (a b : CE) : dT C G (.ix a b) e S = (dE C G a e S).bind (kEB C G e b kIxT) := rfl
@[simp] theorem dAndT_one (a : CE) : dAndT C G [a] e S = dT C G a e S := rfl
@[simp] theorem dAndT_cons (a b : CE) (as : List CE) : dAndT C G (a :: b :: as) e S = (dT C G a e S).bind (kIfT e (dAndT C G (b :: as)) fun _ S1 => .ok false S1) := rfl
@[simp] theorem dOrT_one (a : CE) : dOrT C G [a] e S = dT C G a e S := rfl
@[simp] theorem dOrT_cons (a b : CE) (as : List CE) : dOrT C G (a :: b :: as) e S = (dT C G a e S).bind (kIfT e (fun _ S1 => .ok true S1) (dOrT C G (b :: as))) := rfl
@[simp] theorem dIfs_nil : dIfs C G [] e S = .ok true S := rfl
@[simp] theorem dIfs_one (a : CE) : dIfs C G [a] e S = dT C G a e S := rfl
@[simp] theorem dE_rng (as : List CE) : dE C G (.rng as) e S = (dL C G as e S).bind kRngL := rfl
@[simp] theorem dE_ss (a : CE) : dE C G (.ss a) e S = (dE C G a e S).bind kSs := rfl
@[simp] theorem dI_rng (as : List CE) : dI C G (.rng as) e S = (dL C G as e S).bind kRng := rfl
@[simp] theorem dI_zip (as : List CE) : dI C G (.zip as) e S = (dL C G as e S).bind kZip := rfl
def kBiI (f : Bi) (rs : List R) (S1 : Store) : Out (List D) := lift ((asDs S1 rs).bind fun ds => (biD f ds).bind itemsD) S1
def kSsI (x : R) (S1 : Store) : Out (List D) := lift ((asDs S1 [x]).bind fun ds => (ssD ds).bind itemsD) S1
@[simp] theorem dI_bi (f : Bi) (as : List CE) : dI C G (.bi f as) e S = (dL C G as e S).bind (kBiI f) := rfl
@[simp] theorem dI_ss (a : CE) : dI C G (.ss a) e S = (dE C G a e S).bind kSsI := rfl
@[simp] theorem dI_lc (elt : CE) (t : Tg) (it : CE) (ifs : List CE) (own : List Nat) : dI C G (.lc elt t it ifs own) e S = (lcF (dI C G it) own (dA C G t) (dIfs C G ifs) (dE C G elt) e S).bind kItems := rfl
@[simp] theorem dI_enum (a : CE) : dI C G (.enum a) e S = (dE C G a e S).bind kEnum := rfl
@[simp] theorem dI_v (i : Nat) : dI C G (.v i) e S = (getV e i S).bind kItems := rfl
@[simp] theorem dI_g (x : String) : dI C G (.g x) e S = lift ((G x).bind itemsD) S := rfl
@[simp] theorem dI_tup (es : List CE) : dI C G (.tup es) e S = (dL C G es e S).bind kSeq := rfl
@[simp] theorem dI_lst (es : List CE) : dI C G (.lst es) e S = (dL C G es e S).bind kSeq := rfl
@[simp] theorem dI_ix (a b : CE) : dI C G (.ix a b) e S = (dE C G a e S).bind (kI C G e b kIxI) := rfl
@[simp] theorem dI_sl (a lo hi : CE) : dI C G (.sl a lo hi) e S = (dE C G a e S).bind (kSlI C G e lo hi) := rfl
@[simp] theorem dI_call (f : String) (as : List CE) : dI C G (.call f as) e S = (dL C G as e S).bind (kCallI C f) := rfl
@[simp] theorem dI_bop (op : Bop) (a b : CE) : dI C G (.bop op a b) e S = (dE C G a e S).bind (kI C G e b (kBopI op)) := rfl
@[simp] theorem dA_v (i : Nat) (r : R) : dA C G (.v i) r e S = .ok (e.set i (some r)) S := rfl
@[simp] theorem dA_t (ts : List Tg) (ds : List D) : dA C G (.t ts) (.d (.tuple ds)) e S = if ds.length = ts.length then dAs C G ts ds e S else .bad := rfl
@[simp] theorem dA_ix (a b : CE) (r : R) : dA C G (.ix a b) r e S = (dE C G a e S).bind (kSet C G e b r) := rfl
@[simp] theorem dAs_nil : dAs C G [] [] e S = .ok e S := rfl
@[simp] theorem dAs_cons (t : Tg) (ts : List Tg) (d : D) (ds : List D) : dAs C G (t :: ts) (d :: ds) e S = (dA C G t (.d d) e S).bind (kAs C G ts ds) := rfl
@[simp] theorem dS_asg (t : Tg) (a : CE) : dS C G (.asg t a) e S = (dE C G a e S).bind (kAsg C G e t) := rfl
@[simp] theorem dS_par (is : List Nat) (es : List CE) : dS C G (.par is es) e S = (dL C G es e S).bind (kPar e is) := rfl
@[simp] theorem dS_ex (a : CE) : dS C G (.ex a) e S = (dE C G a e S).bind (kEx e) := rfl
@[simp] theorem dS_ret (a : CE) : dS C G (.ret a) e S = (dE C G a e S).bind (kRet e) := rfl
@[simp] theorem dS_ret0 : dS C G .ret0 e S = .ok (.rt (.d .none), e) S := rfl
@[simp] theorem dS_ite (c : CE) (a b : List CS) : dS C G (.ite c a b) e S = (dT C G c e S).bind (kIfS e (dB C G a) (dB C G b)) := rfl
@[simp] theorem dS_for (t : Tg) (it : CE) (body : List CS) : dS C G (.for_ t it body) e S = (dI C G it e S).bind (kFor C G e t body) := rfl
@[simp] theorem dS_while (c : CE) (body : List CS) : dS C G (.while_ c body) e S = whD (dT C G c) (dB C G body) e S := rfl
@[simp] theorem dS_pass : dS C G .pass e S = .ok (.nx, e) S := rfl
@[simp] theorem dS_brk : dS C G .brk e S = .ok (.bk, e) S := rfl
@[simp] theorem dS_cnt : dS C G .cnt e S = .ok (.ct, e) S := rfl
@[simp] theorem dS_fz (i : Nat) : dS C G (.fz i) e S = match e[i]? with
    | some (some (.ref a)) => match S[a]? with
      | some (.lst ds) => .ok (.nx, e.set i (some (.d (.list ds)))) (S.set a .gone)
      | _ => .bad
    | _ => .bad := rfl
@[simp] theorem dB_nil : dB C G [] e S = .ok (.nx, e) S := rfl
/-- what follows a statement -/
noncomputable def seqK (ss : List CS) (p : Fl × Ev) (S1 : Store) : Out (Fl × Ev) := match p.1 with
    | .nx => dB C G ss p.2 S1
    | f => .ok (f, p.2) S1
@[simp] theorem seqK_nx (ss : List CS) : seqK C G ss (.nx, e) S = dB C G ss e S := rfl
@[simp] theorem seqK_rt (ss : List CS) (r : R) : seqK C G ss (.rt r, e) S = .ok (.rt r, e) S := rfl
@[simp] theorem seqK_bk (ss : List CS) : seqK C G ss (.bk, e) S = .ok (.bk, e) S := rfl
@[simp] theorem seqK_ct (ss : List CS) : seqK C G ss (.ct, e) S = .ok (.ct, e) S := rfl
@[simp] theorem dB_cons (s : CS) (ss : List CS) : dB C G (s :: ss) e S = (dS C G s e S).bind (seqK C G ss) := rfl
end
@[simp] theorem kTup_app (rs : List R) (S : Store) : kTup rs S = lift ((pureDs rs).bind fun ds => if lenFits ds.length then some (.d (.tuple ds)) else none) S := rfl
@[simp] theorem kLst_app (rs : List R) (S : Store) : kLst rs S = lift ((pureDs rs).bind fun ds => if lenFits ds.length then some (.d (.list ds)) else none) S := rfl
@[simp] theorem kBop_d (op : Bop) (p q : D) (S : Store) : kBop op (.d p) (.d q) S = lift ((opB op p q).map R.d) S := rfl
@[simp] theorem kBop_r (op : Bop) (i : Nat) (q : R) (S : Store) : kBop op (.ref i) q S = lift ((asW (.ref i) S).bind fun p => (asW q S).bind fun q => (opB op p q).map R.d) S := rfl
@[simp] theorem kCmp_d (op : Cop) (p q : D) (S : Store) : kCmp op (.d p) (.d q) S = lift ((cmpD op p q).map fun b => R.d (.bool b)) S := rfl
@[simp] theorem kCmpT_d (op : Cop) (p q : D) (S : Store) : kCmpT op (.d p) (.d q) S = lift (cmpD op p q) S := rfl
@[simp] theorem kCmp_r (op : Cop) (i : Nat) (q : R) (S : Store) : kCmp op (.ref i) q S = lift ((asD (.ref i) S).bind fun p => (asD q S).bind fun q => (cmpD op p q).map fun b => R.d (.bool b)) S := rfl
@[simp] theorem kCmpT_r (op : Cop) (i : Nat) (q : R) (S : Store) : kCmpT op (.ref i) q S = lift ((asD (.ref i) S).bind fun p => (asD q S).bind fun q => cmpD op p q) S := rfl
@[simp] theorem kNot_app (x : R) (S : Store) : kNot x S = lift ((tru x S).map fun b => R.d (.bool (!b))) S := rfl
@[simp] theorem kTru_app (x : R) (S : Store) : kTru x S = lift (tru x S) S := rfl
@[simp] theorem kNotT_app (k : Bool) (S : Store) : kNotT k S = .ok (!k) S := rfl
@[simp] theorem kCh_app (C : Fns) (G : String → Option D) (e : Ev) (op op2 : Cop) (c : CE) (p q : D) (S : Store) : kCh C G e op op2 c (.d p) (.d q) S = (lift (cmpD op p q) S).bind (kIf e (fun e S3 => (dE C G c e S3).bind (kCmp op2 (.d q))) fun _ S3 => .ok (.d (.bool false)) S3) := rfl
@[simp] theorem kChT_app (C : Fns) (G : String → Option D) (e : Ev) (op op2 : Cop) (c : CE) (p q : D) (S : Store) : kChT C G e op op2 c (.d p) (.d q) S = (lift (cmpD op p q) S).bind (kIfT e (fun e S3 => (dE C G c e S3).bind (kCmpT op2 (.d q))) fun _ S3 => .ok false S3) := rfl
@[simp] theorem kBi_app (f : Bi) (rs : List R) (S : Store) : kBi f rs S = lift ((asDs S rs).bind fun ds => (biD f ds).map R.d) S := rfl
@[simp] theorem kBiT_app (f : Bi) (rs : List R) (S : Store) : kBiT f rs S = lift ((asDs S rs).bind fun ds => (biD f ds).bind truD) S := rfl
@[simp] theorem kIsi_d (t : Ty) (x : D) (S : Store) : kIsi t (.d x) S = .ok (.d (.bool (tyOf x t))) S := rfl
@[simp] theorem kIsiT_d (t : Ty) (x : D) (S : Store) : kIsiT t (.d x) S = .ok (tyOf x t) S := rfl
@[simp] theorem kIx_d (x y : D) (S : Store) : kIx (.d x) (.d y) S = lift ((ixD x y).map R.d) S := rfl
@[simp] theorem kIx_r (i : Nat) (y : D) (S : Store) : kIx (.ref i) (.d y) S = lift ((asD (.ref i) S).bind fun p => (ixD p y).map R.d) S := rfl
@[simp] theorem kIxT_d (x y : D) (S : Store) : kIxT (.d x) (.d y) S = lift ((ixD x y).bind truD) S := rfl
@[simp] theorem kIxT_r (i : Nat) (y : D) (S : Store) : kIxT (.ref i) (.d y) S = lift ((asD (.ref i) S).bind fun p => (ixD p y).bind truD) S := rfl
@[simp] theorem kSl3_d (x : D) (l h : Option Int) (S : Store) : kSl3 (.d x) l h S = lift ((slD x l h).map R.d) S := rfl
@[simp] theorem kSl3_r (i : Nat) (l h : Option Int) (S : Store) : kSl3 (.ref i) l h S = lift ((asD (.ref i) S).bind fun p => (slD p l h).map R.d) S := rfl
@[simp] theorem kSlI3_d (x : D) (l h : Option Int) (S : Store) : kSlI3 (.d x) l h S = lift ((slD x l h).bind itemsD) S := rfl
@[simp] theorem kSlI3_r (i : Nat) (l h : Option Int) (S : Store) : kSlI3 (.ref i) l h S = lift ((asD (.ref i) S).bind fun p => (slD p l h).bind itemsD) S := rfl
@[simp] theorem kRev_d (x : D) (S : Store) : kRev (.d x) S = lift ((revD x).map R.d) S := rfl
@[simp] theorem kInt_d (x : D) (S : Store) : kInt (.d x) S = lift ((intR (.d x)).map some) S := rfl
@[simp] theorem kIntN_d (x : D) (S : Store) : kIntN (.d x) S = lift ((intR (.d x)).map fun n => some (-n)) S := rfl
@[simp] theorem kBopO_d (op : Bop) (p q : D) (S : Store) : kBopO op (.d p) (.d q) S = lift ((opB op p q).bind fun z => (intR (.d z)).map some) S := rfl
@[simp] theorem kIxO_d (x y : D) (S : Store) : kIxO (.d x) (.d y) S = lift ((ixD x y).bind fun z => (intR (.d z)).map some) S := rfl
@[simp] theorem kIxO_r (i : Nat) (y : D) (S : Store) : kIxO (.ref i) (.d y) S = lift ((asD (.ref i) S).bind fun p => (ixD p y).bind fun z => (intR (.d z)).map some) S := rfl
@[simp] theorem kRngL_app (rs : List R) (S : Store) : kRngL rs S = lift ((asDs S rs).bind fun ds => (rngL ds).map R.d) S := rfl
@[simp] theorem kSs_d (x : D) (S : Store) : kSs (.d x) S = lift ((ssD [x]).map R.d) S := rfl
@[simp] theorem kBiI_app (f : Bi) (rs : List R) (S : Store) : kBiI f rs S = lift ((asDs S rs).bind fun ds => (biD f ds).bind itemsD) S := rfl
@[simp] theorem kSsI_d (x : D) (S : Store) : kSsI (.d x) S = lift ((ssD [x]).bind itemsD) S := rfl
@[simp] theorem kRng_app (rs : List R) (S : Store) : kRng rs S = lift ((asDs S rs).bind rngD) S := rfl
@[simp] theorem kZip_app (rs : List R) (S : Store) : kZip rs S = lift ((pureDs rs).bind zipD) S := rfl
@[simp] theorem kEnum_d (x : D) (S : Store) : kEnum (.d x) S = lift (enumD x) S := rfl
@[simp] theorem kItems_d (x : D) (S : Store) : kItems (.d x) S = lift (itemsD x) S := rfl
@[simp] theorem kSeq_app (rs : List R) (S : Store) : kSeq rs S = lift ((pureDs rs).bind fun ds => if lenFits ds.length then some ds else none) S := rfl
@[simp] theorem kIxI_d (x y : D) (S : Store) : kIxI (.d x) (.d y) S = lift ((ixD x y).bind itemsD) S := rfl
@[simp] theorem kIxI_r (i : Nat) (y : D) (S : Store) : kIxI (.ref i) (.d y) S = lift ((asD (.ref i) S).bind fun p => (ixD p y).bind itemsD) S := rfl
@[simp] theorem kBopI_d (op : Bop) (p q : D) (S : Store) : kBopI op (.d p) (.d q) S = lift ((opB op p q).bind itemsD) S := rfl
def backK (n : Nat) (p : Fl × Ev) (S1 : Store) : Out R := match p.1 with
    | .rt (.d x) => .ok (.d x) (S1.take n)
    | .rt (.ref i) => .ok (.ref i) (S1.take (max n (i + 1)))
    | .nx => .ok (.d .none) (S1.take n)
    | _ => .bad
@[simp] theorem back_eq (n : Nat) (o : Out (Fl × Ev)) : back n o = o.bind (backK n) := rfl
@[simp] theorem backK_d (n : Nat) (x : D) (e : Ev) (S : Store) : backK n (.rt (.d x), e) S = .ok (.d x) (S.take n) := rfl
@[simp] theorem backK_r (n i : Nat) (e : Ev) (S : Store) : backK n (.rt (.ref i), e) S = .ok (.ref i) (S.take (max n (i + 1))) := rfl
@[simp] theorem backK_n (n : Nat) (e : Ev) (S : Store) : backK n (.nx, e) S = .ok (.d .none) (S.take n) := rfl
/-- a def is entered -/
theorem run_fn {P : String → Option Fn} {G : String → Option D} {k : Nat} {f : String} {fn : Fn} {rs : List R} {S : Store} (h : P f = some fn) (hl : rs.length = fn.np) :
    runF P G (k + 1) f rs S = back S.length (dB (runF P G k) G fn.body (rs.map some ++ List.replicate (fn.ns - fn.np) none) S) := by
  unfold runF
  rw [h]
  dsimp only
  rw [if_pos hl]
/-! ### names, values -/
@[simp] theorem getV_0 (r : R) (e : Ev) (S : Store) : getV (some r :: e) 0 S = .ok r S := rfl
@[simp] theorem getV_s (o : Option R) (e : Ev) (i : Nat) (S : Store) : getV (o :: e) (i + 1) S = getV e i S := rfl
theorem getV_of {e : Ev} {i : Nat} {r : R} (S : Store) (h : e[i]? = some (some r)) : getV e i S = .ok r S := by unfold getV; rw [h]
theorem asD_ref {S : Store} {i : Nat} {ds : List D} (h : S[i]? = some (.lst ds)) : asD (.ref i) S = some (.list ds) := by simp [asD, h]
theorem asD_ro {S : Store} {i : Nat} {ds : List D} (h : S[i]? = some (.ro ds)) : asD (.ref i) S = some (.list ds) := by simp [asD, h]
theorem asW_ref {S : Store} {i : Nat} {ds : List D} (h : S[i]? = some (.lst ds)) : asW (.ref i) S = some (.list ds) := by simp [asW, h]
@[simp] theorem tru_d (x : D) (S : Store) : tru (.d x) S = truD x := rfl
@[simp] theorem truD_b (x : Bool) : truD (.bool x) = some x := rfl
@[simp] theorem truD_i (x : Int) : truD (.int x) = some (x != 0) := rfl
@[simp] theorem truD_n : truD .none = some false := rfl
@[simp] theorem truD_l (x : List D) : truD (.list x) = some (!x.isEmpty) := rfl
@[simp] theorem truD_t (x : List D) : truD (.tuple x) = some (!x.isEmpty) := rfl
@[simp] theorem opB_add (i j : Int) : opB .add (.int i) (.int j) = some (.int (i + j)) := rfl
@[simp] theorem opB_sub (i j : Int) : opB .sub (.int i) (.int j) = some (.int (i - j)) := rfl
theorem opB_mul {i j : Int} (h : mulOk i j = true) : opB .mul (.int i) (.int j) = some (.int (i * j)) := by simp [opB, h]
theorem opB_fdiv {i j : Int} (h : divOk j = true) : opB .fdiv (.int i) (.int j) = some (.int (i.fdiv j)) := by simp [opB, h]
theorem opB_mod {i j : Int} (h : j ≠ 0) : opB .mod (.int i) (.int j) = some (.int (i.fmod j)) := by simp [opB, h]
theorem opB_pow {i j : Int} (h : powOk i j = true) : opB .pow (.int i) (.int j) = some (.int (i ^ j.toNat)) := by simp [opB, h]
theorem opB_shl {i j : Int} (h : powOk i j = true) : opB .shl (.int i) (.int j) = some (.int (i * 2 ^ j.toNat)) := by simp [opB, h]
theorem opB_addL {xs ys : List D} (h : xs.length + ys.length ≤ sizeLine) : opB .add (.list xs) (.list ys) = some (.list (xs ++ ys)) := by simp [opB, lenFits, h]
theorem opB_addT {xs ys : List D} (h : xs.length + ys.length ≤ sizeLine) : opB .add (.tuple xs) (.tuple ys) = some (.tuple (xs ++ ys)) := by simp [opB, lenFits, h]
theorem opB_mulT {xs : List D} {n : Int} (h : -1000 ≤ n ∧ n ≤ 1000 ∧ xs.length ≤ 1000) : opB .mul (.tuple xs) (.int n) = some (.tuple (List.replicate n.toNat xs).flatten) := by simp [opB, h.1, h.2.1, h.2.2]
@[simp] theorem cmp_lt (i j : Int) : cmpD .lt (.int i) (.int j) = some (decide (i < j)) := rfl
@[simp] theorem cmp_le (i j : Int) : cmpD .le (.int i) (.int j) = some (decide (i ≤ j)) := rfl
@[simp] theorem cmp_gt (i j : Int) : cmpD .gt (.int i) (.int j) = some (decide (j < i)) := rfl
@[simp] theorem cmp_ge (i j : Int) : cmpD .ge (.int i) (.int j) = some (decide (j ≤ i)) := rfl
@[simp] theorem cmp_eq (x y : D) : cmpD .eq x y = eqD x y := rfl
@[simp] theorem cmp_ne (x y : D) : cmpD .ne x y = (eqD x y).map (!·) := rfl
@[simp] theorem eqD_i (i j : Int) : eqD (.int i) (.int j) = some (i == j) := rfl
@[simp] theorem eqD_s (i j : Str) : eqD (.str i) (.str j) = some (i == j) := rfl
@[simp] theorem eqD_b (i j : Bool) : eqD (.bool i) (.bool j) = some (i == j) := rfl
theorem eqD_sh {x y : D} (h1 : SeqAt.shaped x = true) (h2 : SeqAt.shaped y = true) (h3 : leafEq x y = none) : eqD x y = some (PyData.eqv x y) := by simp [eqD, h1, h2, h3]
@[simp] theorem bi_len (x : List D) : biD .len x = bLen x := rfl
@[simp] theorem bi_abs (x : List D) : biD .abs x = bAbs x := rfl
@[simp] theorem bi_max (x : List D) : biD .max x = bMax x := rfl
@[simp] theorem bi_min (x : List D) : biD .min x = bMin x := rfl
@[simp] theorem bi_int (x : List D) : biD .int x = bInt x := rfl
@[simp] theorem bi_divmod (x : List D) : biD .divmod x = bDivmod x := rfl
@[simp] theorem bi_all (x : List D) : biD .all x = bAll x := rfl
@[simp] theorem bi_any (x : List D) : biD .any x = bAny x := rfl
@[simp] theorem bi_tuple (x : List D) : biD .tuple x = bTuple x := rfl
@[simp] theorem bi_list (x : List D) : biD .list x = bList x := rfl
@[simp] theorem bi_repr (x : List D) : biD .repr x = bRepr x := rfl
@[simp] theorem bi_sum (x : List D) : biD .sum x = bSum x := rfl
@[simp] theorem bLen_l (x : List D) : bLen [.list x] = some (.int x.length) := rfl
@[simp] theorem bLen_t (x : List D) : bLen [.tuple x] = some (.int x.length) := rfl
@[simp] theorem bAbs_i (i : Int) : bAbs [.int i] = some (.int (if i < 0 then -i else i)) := rfl
@[simp] theorem bMax_i (i j : Int) : bMax [.int i, .int j] = some (.int (if j > i then j else i)) := rfl
@[simp] theorem bMin_i (i j : Int) : bMin [.int i, .int j] = some (.int (if j < i then j else i)) := rfl
@[simp] theorem bInt_i (i : Int) : bInt [.int i] = some (.int i) := rfl
@[simp] theorem bInt_b (i : Bool) : bInt [.bool i] = some (.int (if i then 1 else 0)) := rfl
theorem bDivmod_i {i j : Int} (h : 0 < j ∧ divOk j = true) : bDivmod [.int i, .int j] = some (.tuple [.int (i / j), .int (i % j)]) := by
  simp only [divOk, Bool.and_eq_true, decide_eq_true_eq] at h
  simp [bDivmod, h.1, h.2.2]
@[simp] theorem bTuple_l (x : List D) : bTuple [.list x] = some (.tuple x) := rfl
@[simp] theorem bTuple_t (x : List D) : bTuple [.tuple x] = some (.tuple x) := rfl
@[simp] theorem bList_l (x : List D) : bList [.list x] = some (.list x) := rfl
@[simp] theorem bList_t (x : List D) : bList [.tuple x] = some (.list x) := rfl
theorem bRepr_1 {x : D} (h : reprOk x = true) : bRepr [x] = some (.str x.shown) := by simp [bRepr, h]
theorem bAll_l {x : List D} {bs : List Bool} (h : bools x = some bs) : bAll [.list x] = some (.bool (bs.all id)) := by simp only [bAll, h]; rfl
theorem bAny_l {x : List D} {bs : List Bool} (h : bools x = some bs) : bAny [.list x] = some (.bool (bs.any id)) := by simp only [bAny, h]; rfl
theorem bSum_l {x : List D} {bs : List Int} (h : intsD x = some bs) : bSum [.list x] = some (.int bs.sum) := by simp only [bSum, h]; rfl
@[simp] theorem bools_map {t : Type} (l : List t) (f : t → Bool) : bools (l.map fun x => .bool (f x)) = some (l.map f) := by
  induction l with
  | nil => rfl
  | cons a l ih => simp [bools, ih]
@[simp] theorem intsD_map {t : Type} (l : List t) (f : t → Int) : intsD (l.map fun x => .int (f x)) = some (l.map f) := by
  induction l with
  | nil => rfl
  | cons a l ih => simp [intsD, ih]
@[simp] theorem sl_l (x : List D) (a b : Option Int) : slD (.list x) a b = some (.list (cutD x a b)) := rfl
@[simp] theorem sl_t (x : List D) (a b : Option Int) : slD (.tuple x) a b = some (.tuple (cutD x a b)) := rfl
@[simp] theorem ix_l (x : List D) (i : Int) : ixD (.list x) (.int i) = L2.atI x i := rfl
@[simp] theorem ix_t (x : List D) (i : Int) : ixD (.tuple x) (.int i) = L2.atI x i := rfl
@[simp] theorem items_l (x : List D) : itemsD (.list x) = some x := rfl
@[simp] theorem items_t (x : List D) : itemsD (.tuple x) = some x := rfl
@[simp] theorem intR_i (i : Int) : intR (.d (.int i)) = some i := rfl
@[simp] theorem forD_nil (f : D → Ev → Store → Out (Fl × Ev)) (e : Ev) (S : Store) : forD f [] e S = .ok (.nx, e) S := rfl
def forK (f : D → Ev → Store → Out (Fl × Ev)) (xs : List D) (p : Fl × Ev) (S1 : Store) : Out (Fl × Ev) := match p.1 with
    | .nx => forD f xs p.2 S1
    | .ct => forD f xs p.2 S1
    | .bk => .ok (.nx, p.2) S1
    | .rt r => .ok (.rt r, p.2) S1
theorem forD_cons (f : D → Ev → Store → Out (Fl × Ev)) (x : D) (xs : List D) (e : Ev) (S : Store) : forD f (x :: xs) e S = (f x e S).bind (forK f xs) := rfl
@[simp] theorem forK_nx (f : D → Ev → Store → Out (Fl × Ev)) (xs : List D) (e : Ev) (S : Store) : forK f xs (.nx, e) S = forD f xs e S := rfl
@[simp] theorem forK_ct (f : D → Ev → Store → Out (Fl × Ev)) (xs : List D) (e : Ev) (S : Store) : forK f xs (.ct, e) S = forD f xs e S := rfl
@[simp] theorem forK_bk (f : D → Ev → Store → Out (Fl × Ev)) (xs : List D) (e : Ev) (S : Store) : forK f xs (.bk, e) S = .ok (.nx, e) S := rfl
@[simp] theorem forK_rt (f : D → Ev → Store → Out (Fl × Ev)) (xs : List D) (r : R) (e : Ev) (S : Store) : forK f xs (.rt r, e) S = .ok (.rt r, e) S := rfl
theorem rng_1 {j : Int} (h : -(2 ^ 62) ≤ j ∧ j < 2 ^ 62) : rngD [.int j] = some ((List.range j.toNat).map fun (k : Nat) => .int k) := by
  have : rngOk j = true := by simp only [rngOk, Bool.and_eq_true, decide_eq_true_eq]; exact h
  simp [rngD, this]
theorem rng_2 {i j : Int} (h : -(2 ^ 62) ≤ i ∧ i < 2 ^ 62 ∧ -(2 ^ 62) ≤ j ∧ j < 2 ^ 62) : rngD [.int i, .int j] = some ((List.range (j - i).toNat).map fun (k : Nat) => .int (i + k)) := by
  have h1 : rngOk i = true := by simp only [rngOk, Bool.and_eq_true, decide_eq_true_eq]; exact ⟨h.1, h.2.1⟩
  have h2 : rngOk j = true := by simp only [rngOk, Bool.and_eq_true, decide_eq_true_eq]; exact h.2.2
  simp [rngD, h1, h2]
theorem rngL_2 {i j : Int} (h : -(2 ^ 62) ≤ i ∧ i < 2 ^ 62 ∧ -(2 ^ 62) ≤ j ∧ j < 2 ^ 62) (l : (j - i).toNat ≤ 100000) : rngL [.int i, .int j] = some (.list ((List.range (j - i).toNat).map fun (k : Nat) => .int (i + k))) := by
  simp [rngL, rng_2 h, l]
theorem rngL_1 {j : Int} (h : -(2 ^ 62) ≤ j ∧ j < 2 ^ 62) (l : j.toNat ≤ 100000) : rngL [.int j] = some (.list ((List.range j.toNat).map fun (k : Nat) => .int k)) := by
  simp [rngL, rng_1 h, l]
/-- the end of a loop's turn -/
def turnQ (Nx : Ev → Store → Prop) (Q : Fl × Ev → Store → Prop) (p : Fl × Ev) (S1 : Store) : Prop := match p.1 with
      | .nx => Nx p.2 S1
      | .ct => Nx p.2 S1
      | .bk => Q (.nx, p.2) S1
      | .rt r => Q (.rt r, p.2) S1
@[simp] theorem turnQ_nx (Nx : Ev → Store → Prop) (Q : Fl × Ev → Store → Prop) (e : Ev) (S : Store) : turnQ Nx Q (.nx, e) S = Nx e S := rfl
@[simp] theorem turnQ_ct (Nx : Ev → Store → Prop) (Q : Fl × Ev → Store → Prop) (e : Ev) (S : Store) : turnQ Nx Q (.ct, e) S = Nx e S := rfl
@[simp] theorem turnQ_bk (Nx : Ev → Store → Prop) (Q : Fl × Ev → Store → Prop) (e : Ev) (S : Store) : turnQ Nx Q (.bk, e) S = Q (.nx, e) S := rfl
@[simp] theorem turnQ_rt (Nx : Ev → Store → Prop) (Q : Fl × Ev → Store → Prop) (r : R) (e : Ev) (S : Store) : turnQ Nx Q (.rt r, e) S = Q (.rt r, e) S := rfl
/-- loops: an invariant -/
theorem for_from {f : D → Ev → Store → Out (Fl × Ev)} {Q : Fl × Ev → Store → Prop} (I : Nat → Ev → Store → Prop) : ∀ (xs : List D) (i : Nat) (e : Ev) (S : Store), I i e S → (∀ j x e S, xs[j]? = some x → I (i + j) e S → Ok (f x e S) (turnQ (I (i + j + 1)) Q)) →
    (∀ e S, I (i + xs.length) e S → Q (.nx, e) S) → Ok (forD f xs e S) Q
  | [], i, e, S, h0, _, hq => by rw [forD_nil, ok_ok]; exact hq e S h0
  | x :: xs, i, e, S, h0, hs, hq => by
    rw [forD_cons, ok_bind]
    refine (hs 0 x e S rfl h0).imp fun p S1 h => ?_
    obtain ⟨fl, e1⟩ := p
    have again : I (i + 1) e1 S1 → Ok (forD f xs e1 S1) Q := fun h => for_from I xs (i + 1) e1 S1 h (fun j x e S hx hi => by have := hs (j + 1) x e S (by simpa using hx) (by rw [show i + (j + 1) = i + 1 + j by omega]; exact hi); rw [show i + (j + 1) + 1 = i + 1 + j + 1 by omega] at this; exact this) (fun e S h => hq e S (by rw [List.length_cons, show i + (xs.length + 1) = i + 1 + xs.length by omega]; exact h))
    cases fl with
    | nx => exact again h
    | ct => exact again h
    | bk => rw [okK_app, forK_bk, ok_ok]; exact h
    | rt r => rw [okK_app, forK_rt, ok_ok]; exact h
theorem for_inv {f : D → Ev → Store → Out (Fl × Ev)} {Q : Fl × Ev → Store → Prop} (I : Nat → Ev → Store → Prop) {xs : List D} {e : Ev} {S : Store} (h0 : I 0 e S) (hs : ∀ j x e S, xs[j]? = some x → I j e S → Ok (f x e S) (turnQ (I (j + 1)) Q))
    (hq : ∀ e S, I xs.length e S → Q (.nx, e) S) : Ok (forD f xs e S) Q :=
  for_from I xs 0 e S h0 (fun j x e S hx hi => by rw [Nat.zero_add] at hi ⊢; exact hs j x e S hx hi) (fun e S h => hq e S (by rw [Nat.zero_add] at h; exact h))
/-! ### sizes -/
theorem log2_lt {n k : Nat} (h : n < 2 ^ k) (hk : 0 < k) : n.log2 < k := by
  by_cases h0 : n = 0
  · subst h0; simpa using hk
  · exact (Nat.log2_lt h0).mpr h
theorem mulOk_of {i j : Int} {a b : Nat} (h1 : i.natAbs < 2 ^ a) (h2 : j.natAbs < 2 ^ b) (h : a + b < 1000000) (ha : 0 < a) (hb : 0 < b) : mulOk i j = true := by
  have := log2_lt h1 ha
  have := log2_lt h2 hb
  unfold mulOk
  rw [decide_eq_true_eq]; omega
theorem divOk_of {j : Int} {a : Nat} (h0 : j ≠ 0) (h1 : j.natAbs < 2 ^ a) (h : a ≤ 9000) (ha : 0 < a) : divOk j = true := by
  have := log2_lt h1 ha
  unfold divOk
  simp only [Bool.and_eq_true, decide_eq_true_eq]; exact ⟨h0, by omega⟩
theorem mul_lt200 {i j : Int} (h1 : -(2 ^ 200) < i ∧ i < 2 ^ 200) (h2 : -(2 ^ 200) < j ∧ j < 2 ^ 200) : opB .mul (.int i) (.int j) = some (.int (i * j)) := by
  refine opB_mul (mulOk_of (a := 200) (b := 200) ?_ ?_ (by decide) (by decide) (by decide)) <;> omega
theorem fdiv_lt200 {i j : Int} (h0 : j ≠ 0) (h2 : -(2 ^ 200) < j ∧ j < 2 ^ 200) : opB .fdiv (.int i) (.int j) = some (.int (i.fdiv j)) := by
  refine opB_fdiv (divOk_of (a := 200) h0 ?_ (by decide) (by decide)); omega
theorem divmod_lt200 {i j : Int} (h0 : 0 < j) (h2 : j < 2 ^ 200) : bDivmod [.int i, .int j] = some (.tuple [.int (i / j), .int (i % j)]) := by
  refine bDivmod_i ⟨h0, divOk_of (a := 200) (by omega) ?_ (by decide) (by decide)⟩; omega
theorem pow_lt64 {i j : Int} (h1 : -(2 ^ 64) < i ∧ i < 2 ^ 64) (h0 : 0 ≤ j) (h2 : j ≤ 1000000) : opB .pow (.int i) (.int j) = some (.int (i ^ j.toNat)) := by
  refine opB_pow ?_
  simp only [powOk, Bool.and_eq_true, decide_eq_true_eq]
  exact ⟨⟨h0, h2⟩, by omega⟩
theorem shl_lt64 {i j : Int} (h1 : -(2 ^ 64) < i ∧ i < 2 ^ 64) (h0 : 0 ≤ j) (h2 : j ≤ 1000000) : opB .shl (.int i) (.int j) = some (.int (i * 2 ^ j.toNat)) := by
  refine opB_shl ?_
  simp only [powOk, Bool.and_eq_true, decide_eq_true_eq]
  exact ⟨⟨h0, h2⟩, by omega⟩
theorem fmod_emod {i j : Int} (h : 0 < j) : i.fmod j = i % j := Int.fmod_eq_emod_of_nonneg i (by omega)
theorem fdiv_ediv {i j : Int} (h : 0 < j) : i.fdiv j = i / j := Int.fdiv_eq_ediv_of_nonneg i (by omega)
end Sx
set_option Elab.async false
set_option linter.all false
set_option maxRecDepth 100000
set_option maxHeartbeats 0
namespace Lw
open PySem PySem.Spec PyProof.Rows L2 Sx
def fn_is_whole : Fn := ⟨1, 1,
[.ret (.and [.isi (.v 0) .int, .not (.isi (.v 0) .bool)])]⟩
def fn_is_between : Fn := ⟨3, 3,
[.ret (.and [.call "is_whole" [.v 0], .chain .le .le (.v 1) (.v 0) (.v 2)])]⟩
def fn_are_wholes : Fn := ⟨2, 3,
[.ret (.and [.isi (.v 0) .tuple, .cmp .eq (.bi .len [.v 0]) (.v 1), .bi .all [.lc (.call "is_whole" [.v 2]) (.v 2) (.v 0) [] [2]]])]⟩
def fn_divisor_of : Fn := ⟨2, 2,
[.ret (.bi .gcd [.v 0, .v 1])]⟩
def fn_is_ratio : Fn := ⟨1, 1,
[.ret (.and [.call "are_wholes" [.v 0, .i 2], .cmp .gt (.ix (.v 0) (.i 1)) (.i 0), .cmp .eq (.call "divisor_of" [.ix (.v 0) (.i 0), .ix (.v 0) (.i 1)]) (.i 1)])]⟩
def fn_ratio : Fn := ⟨2, 3,
[.asg (.v 2) (.ite (.cmp .gt (.v 1) (.i 0)) (.call "divisor_of" [.v 0, .v 1]) (.neg (.call "divisor_of" [.v 0, .v 1]))), .ret (.tup [.bop .fdiv (.v 0) (.v 2), .bop .fdiv
  (.v 1) (.v 2)])]⟩
def fn_plus : Fn := ⟨2, 2,
[.ret (.call "ratio" [.bop .add (.bop .mul (.ix (.v 0) (.i 0)) (.ix (.v 1) (.i 1))) (.bop .mul (.ix (.v 1) (.i 0)) (.ix (.v 0) (.i 1))), .bop .mul (.ix (.v 0) (.i 1))
  (.ix (.v 1) (.i 1))])]⟩
def fn_minus : Fn := ⟨2, 2,
[.ret (.call "ratio" [.bop .sub (.bop .mul (.ix (.v 0) (.i 0)) (.ix (.v 1) (.i 1))) (.bop .mul (.ix (.v 1) (.i 0)) (.ix (.v 0) (.i 1))), .bop .mul (.ix (.v 0) (.i 1))
  (.ix (.v 1) (.i 1))])]⟩
def fn_times : Fn := ⟨2, 2,
[.ret (.call "ratio" [.bop .mul (.ix (.v 0) (.i 0)) (.ix (.v 1) (.i 0)), .bop .mul (.ix (.v 0) (.i 1)) (.ix (.v 1) (.i 1))])]⟩
def fn_over : Fn := ⟨2, 2,
[.ret (.call "ratio" [.bop .mul (.ix (.v 0) (.i 0)) (.ix (.v 1) (.i 1)), .bop .mul (.ix (.v 0) (.i 1)) (.ix (.v 1) (.i 0))])]⟩
def fn_opposite : Fn := ⟨1, 1,
[.ret (.tup [.neg (.ix (.v 0) (.i 0)), .ix (.v 0) (.i 1)])]⟩
def fn_is_up_to : Fn := ⟨2, 2,
[.ret (.cmp .le (.bop .mul (.ix (.v 0) (.i 0)) (.ix (.v 1) (.i 1))) (.bop .mul (.ix (.v 1) (.i 0)) (.ix (.v 0) (.i 1))))]⟩
def fn_is_below : Fn := ⟨2, 2,
[.ret (.cmp .lt (.bop .mul (.ix (.v 0) (.i 0)) (.ix (.v 1) (.i 1))) (.bop .mul (.ix (.v 1) (.i 0)) (.ix (.v 0) (.i 1))))]⟩
def fn_dot : Fn := ⟨2, 5,
[.asg (.v 2) (.g "ZERO"), .for_ (.t [.v 3, .v 4]) (.zip [.v 0, .v 1]) [.ite (.and [.cmp .ne (.ix (.v 3) (.i 0)) (.i 0), .cmp .ne (.ix (.v 4) (.i 0)) (.i 0)]) [.asg (.v 2)
  (.call "plus" [.v 2, .call "times" [.v 3, .v 4]])] []], .ret (.v 2)]⟩
def fn_noughts : Fn := ⟨1, 1,
[.ret (.bop .mul (.tup [.g "ZERO"]) (.v 0))]⟩
def fn_unit : Fn := ⟨2, 2,
[.ret (.bop .add (.bop .add (.call "noughts" [.v 1]) (.tup [.g "ONE"])) (.call "noughts" [.bop .sub (.bop .sub (.v 0) (.i 1)) (.v 1)]))]⟩
def fn_scaled : Fn := ⟨2, 3,
[.ret (.bi .tuple [.lc (.call "times" [.v 2, .v 1]) (.v 2) (.v 0) [] [2]])]⟩
def fn_turned : Fn := ⟨1, 2,
[.ret (.bi .tuple [.lc (.call "opposite" [.v 1]) (.v 1) (.v 0) [] [1]])]⟩
def fn_is_row_by : Fn := ⟨2, 3,
[.ret (.and [.isi (.v 0) .tuple, .cmp .eq (.bi .len [.v 0]) (.v 1), .bi .all [.lc (.call "is_ratio" [.v 2]) (.v 2) (.v 0) [] [2]]])]⟩
def fn_check_row : Fn := ⟨2, 4,
[.ite (.or [.not (.isi (.v 1) .tuple), .cmp .ne (.bi .len [.v 1]) (.v 0)]) [.never] [], .for_ (.t [.v 2, .v 3]) (.enum (.v 1)) [.ite (.not (.call "is_ratio" [.v 3]))
  [.never] []]]⟩
def fn_first_board : Fn := ⟨2, 10,
[.asg (.v 2) (.bi .len [.v 1]), .asg (.v 3) (.lc (.ite (.cmp .lt (.ix (.v 8) (.i 0)) (.i 0)) (.g "LESS") (.g "ONE")) (.v 8) (.v 1) [] [8]), .asg (.v 4) (.new (.lst [])),
  .for_ (.t [.v 5, .v 6]) (.enum (.v 3)) [.asg (.v 7) (.bi .tuple [.lc (.call "times" [.ix (.v 9) (.v 5), .v 6]) (.v 9) (.v 0) [] [9]]), .ex (.app (.v 4) (.bop .add (.bop
  .add (.v 7) (.call "unit" [.v 2, .v 5])) (.tup [.call "times" [.ix (.v 1) (.v 5), .v 6]])))], .fz 4, .ret (.tup [.v 4, .v 3])]⟩
def fn_gaps : Fn := ⟨3, 8,
[.asg (.v 3) (.bi .list [.v 2]), .for_ (.t [.v 4, .v 5]) (.zip [.v 0, .v 1]) [.ite (.cmp .ne (.ix (.ix (.v 2) (.v 5)) (.i 0)) (.i 0)) [.asg (.v 3) (.lc (.call "minus" [.v
  6, .call "times" [.ix (.v 2) (.v 5), .v 7]]) (.t [.v 6, .v 7]) (.zip [.v 3, .v 4]) [] [6, 7])] []], .ret (.v 3)]⟩
def fn_leaving : Fn := ⟨3, 7,
[.asg (.v 3) (.lst []), .for_ (.t [.v 4, .v 5]) (.enum (.v 0)) [.ite (.cmp .gt (.ix (.ix (.v 5) (.v 2)) (.i 0)) (.i 0)) [.asg (.v 6) (.call "over" [.ix (.v 5) (.neg (.i
  1)), .ix (.v 5) (.v 2)]), .ite (.or [.cmp .eq (.v 3) (.lst []), .call "is_below" [.v 6, .ix (.v 3) (.i 0)], .and [.cmp .eq (.v 6) (.ix (.v 3) (.i 0)), .cmp .lt (.ix (.v
  1) (.v 4)) (.ix (.v 1) (.ix (.v 3) (.i 1)))]]) [.asg (.v 3) (.lst [.v 6, .v 4])] []] []], .ret (.sl (.v 3) (.i 1) (.nob))]⟩
def fn_turned_about : Fn := ⟨3, 9,
[.asg (.v 3) (.call "scaled" [.ix (.v 0) (.v 1), .call "over" [.g "ONE", .ix (.ix (.v 0) (.v 1)) (.v 2)]]), .asg (.v 4) (.new (.lst [])), .for_ (.t [.v 5, .v 6]) (.enum
  (.v 0)) [.ite (.cmp .eq (.v 5) (.v 1)) [.ex (.app (.v 4) (.v 3))] [.ite (.cmp .eq (.ix (.ix (.v 6) (.v 2)) (.i 0)) (.i 0)) [.ex (.app (.v 4) (.v 6))] [.ex (.app (.v 4)
  (.bi .tuple [.lc (.call "minus" [.v 7, .call "times" [.ix (.v 6) (.v 2), .v 8]]) (.t [.v 7, .v 8]) (.zip [.v 6, .v 3]) [] [7, 8]]))]]], .fz 4, .ret (.v 4)]⟩
def fn_descended : Fn := ⟨4, 8,
[.while_ (.b true) [.asg (.v 4) (.call "gaps" [.v 0, .v 1, .v 2]), .asg (.v 5) (.lc (.v 7) (.v 7) (.rng [.v 3]) [.cmp .lt (.ix (.ix (.v 4) (.v 7)) (.i 0)) (.i 0)] [7]),
  .asg (.v 6) (.ite (.cmp .ne (.v 5) (.lst [])) (.call "leaving" [.v 0, .v 1, .ix (.v 5) (.i 0)]) (.lst [])), .ite (.cmp .eq (.v 6) (.lst [])) [.ret (.tup [.v 0, .v 1, .v
  4])] [], .asg (.v 0) (.call "turned_about" [.v 0, .ix (.v 6) (.i 0), .ix (.v 5) (.i 0)]), .asg (.v 1) (.bop .add (.bop .add (.sl (.v 1) (.nob) (.ix (.v 6) (.i 0)))
  (.lst [.ix (.v 5) (.i 0)])) (.sl (.v 1) (.bop .add (.ix (.v 6) (.i 0)) (.i 1)) (.nob)))]]⟩
def fn_prices : Fn := ⟨4, 6,
[.ret (.bi .tuple [.lc (.call "times" [.v 5, .call "minus" [.ix (.v 2) (.bop .add (.v 3) (.v 4)), .ix (.v 0) (.bop .add (.v 3) (.v 4))]]) (.t [.v 4, .v 5]) (.enum (.v 1))
  [] [4, 5]])]⟩
def fn_driven_out : Fn := ⟨3, 6,
[.for_ (.v 3) (.rng [.bi .len [.v 1]]) [.ite (.cmp .ge (.ix (.v 1) (.v 3)) (.v 2)) [.asg (.v 4) (.lc (.v 5) (.v 5) (.rng [.v 2]) [.cmp .ne (.ix (.ix (.ix (.v 0) (.v 3))
  (.v 5)) (.i 0)) (.i 0)] [5]), .ite (.cmp .ne (.v 4) (.lst [])) [.asg (.v 0) (.call "turned_about" [.v 0, .v 3, .ix (.v 4) (.i 0)]), .asg (.v 1) (.bop .add (.bop .add
  (.sl (.v 1) (.nob) (.v 3)) (.lst [.ix (.v 4) (.i 0)])) (.sl (.v 1) (.bop .add (.v 3) (.i 1)) (.nob)))] []] []], .ret (.tup [.v 0, .v 1])]⟩
def fn_weights_by : Fn := ⟨3, 6,
[.asg (.v 3) (.new (.bi .list [.call "noughts" [.v 2]])), .for_ (.t [.v 4, .v 5]) (.zip [.v 0, .v 1]) [.ite (.cmp .lt (.v 5) (.v 2)) [.asg (.ix (.v 3) (.v 5)) (.ix (.v 4)
  (.neg (.i 1)))] []], .fz 3, .ret (.bi .tuple [.v 3])]⟩
def fn_least_by : Fn := ⟨3, 12,
[.asg (.t [.v 4, .v 5]) (.tup [.bi .len [.v 0], .bi .len [.v 1]]), .asg (.t [.v 6, .v 7]) (.call "first_board" [.v 0, .v 1]), .asg (.v 3) (.bop .add (.call "noughts" [.v
  4]) (.bop .mul (.tup [.g "ONE"]) (.v 5))), .asg (.t [.v 6, .v 8, .v 9]) (.call "descended" [.v 6, .rng [.v 4, .bop .add (.v 4) (.v 5)], .v 3, .v 4]), .ite (.bi .any
  [.lc (.and [.cmp .ge (.v 11) (.v 4), .cmp .gt (.ix (.ix (.v 10) (.neg (.i 1))) (.i 0)) (.i 0)]) (.t [.v 10, .v 11]) (.zip [.v 6, .v 8]) [] [10, 11]]) [.ret (.tup [.tup
  [], .call "prices" [.v 9, .v 7, .v 3, .v 4]])] [], .asg (.t [.v 6, .v 8]) (.call "driven_out" [.v 6, .v 8, .v 4]), .asg (.v 3) (.bop .add (.bi .tuple [.v 2]) (.call
  "noughts" [.v 5])), .asg (.t [.v 6, .v 8, .v 9]) (.call "descended" [.v 6, .v 8, .v 3, .v 4]), .ret (.tup [.call "weights_by" [.v 6, .v 8, .v 4], .call "prices" [.v 9,
  .v 7, .v 3, .v 4]])]⟩
def fn_void_by : Fn := ⟨3, 9,
[.asg (.v 3) (.lc (.bop .add (.v 6) (.tup [.v 7])) (.t [.v 6, .v 7]) (.zip [.v 0, .v 1]) [] [6, 7]), .asg (.t [.v 4, .v 5]) (.call "least_by" [.v 3, .bop .add (.call
  "noughts" [.v 2]) (.tup [.g "LESS"]), .call "noughts" [.bi .len [.v 3]]]), .ite (.cmp .ne (.v 4) (.tup [])) [.ret (.tup [.v 4, .tup []])] [], .ret (.tup [.tup [], .bi
  .tuple [.lc (.call "over" [.v 8, .ix (.v 5) (.v 2)]) (.v 8) (.call "turned" [.sl (.v 5) (.nob) (.v 2)]) [] [8]]])]⟩
def fn_is_wish : Fn := ⟨2, 2,
[.ret (.and [.isi (.v 0) .tuple, .cmp .eq (.bi .len [.v 0]) (.i 2), .call "is_row_by" [.ix (.v 0) (.i 0), .v 1], .call "is_ratio" [.ix (.v 0) (.i 1)]])]⟩
def fn_is_lot_by : Fn := ⟨2, 3,
[.ite (.or [.not (.isi (.v 0) .tuple), .cmp .ne (.bi .len [.v 0]) (.i 2), .not (.call "is_between" [.ix (.v 0) (.i 0), .i 1, .g "MOST_SIZE"])]) [.ret (.b false)] [], .ite
  (.or [.not (.isi (.ix (.v 0) (.i 1)) .tuple), .cmp .gt (.bi .len [.ix (.v 0) (.i 1)]) (.v 1)]) [.ret (.b false)] [], .ret (.bi .all [.lc (.call "is_wish" [.v 2, .ix (.v
  0) (.i 0)]) (.v 2) (.ix (.v 0) (.i 1)) [] [2]])]⟩
def fn_rows_in : Fn := ⟨1, 3,
[.ret (.lc (.v 1) (.t [.v 1, .v 2]) (.ix (.v 0) (.i 1)) [] [1, 2])]⟩
def fn_bounds_in : Fn := ⟨1, 3,
[.ret (.lc (.v 2) (.t [.v 1, .v 2]) (.ix (.v 0) (.i 1)) [] [1, 2])]⟩
def fn_lies_by : Fn := ⟨2, 4,
[.ret (.bi .all [.lc (.call "is_up_to" [.call "dot" [.v 2, .v 1], .v 3]) (.t [.v 2, .v 3]) (.ix (.v 0) (.i 1)) [] [2, 3]])]⟩
def fn_void_weights : Fn := ⟨1, 1,
[.ret (.call "void_by" [.call "rows_in" [.v 0], .call "bounds_in" [.v 0], .ix (.v 0) (.i 0)])]⟩
def fn_check_lot : Fn := ⟨1, 1,
[.ite (.not (.callk ⟨"is_lot_by", 1, [], [100], [0, 1]⟩ [.v 0] [])) [.never] []]⟩
def fn_lies_in : Fn := ⟨2, 2,
[.ex (.call "check_lot" [.v 0]), .ex (.call "check_row" [.ix (.v 0) (.i 0), .v 1]), .ret (.call "lies_by" [.v 0, .v 1])]⟩
def fn_point_of : Fn := ⟨1, 3,
[.ex (.call "check_lot" [.v 0]), .asg (.t [.v 1, .v 2]) (.call "void_weights" [.v 0]), .ret (.ite (.cmp .eq (.v 1) (.tup [])) (.v 2) (.non))]⟩
def fn__law_same : Fn := ⟨2, 4,
[.ite (.isi (.v 1) .tuple) [.ret (.and [.isi (.v 0) .tuple, .cmp .eq (.bi .len [.v 0]) (.bi .len [.v 1]), .bi .all [.lc (.call "_law_same" [.v 2, .v 3]) (.t [.v 2, .v 3])
  (.zip [.v 0, .v 1]) [] [2, 3]]])] [], .ite (.cmp .isx (.v 1) (.non)) [.ret (.cmp .isx (.v 0) (.non))] [], .ite (.isi (.v 1) .bool) [.ret (.and [.isi (.v 0) .bool, .cmp
  .eq (.v 0) (.v 1)])] [], .ite (.isi (.v 1) .str) [.ret (.and [.isi (.v 0) .str, .cmp .eq (.v 0) (.v 1)])] [], .ret (.and [.isi (.v 0) .int, .not (.isi (.v 0) .bool),
  .cmp .eq (.v 0) (.v 1)])]⟩
def fn__law_well : Fn := ⟨2, 5,
[.asg (.v 2) (.ite (.cmp .lt (.v 1) (.bi .len [.v 0])) (.bi .int [.ix (.v 0) (.v 1)]) (.i 0)), .asg (.v 3) (.bop .add (.i 703711) (.bop .mul (.i 131) (.v 1))), .for_ (.v
  4) (.sl (.v 0) (.nob) (.i 10)) [.asg (.v 3) (.bop .mod (.bi .int [.bop .add (.bop .add (.bop .mul (.v 3) (.i 57349)) (.bop .mod (.bi .int [.v 4]) (.i 2147483399))) (.i
  19)]) (.i 2147483587))], .asg (.v 3) (.bop .mod (.bi .int [.bop .add (.bop .add (.bop .mul (.v 3) (.i 37)) (.bop .mul (.bop .mod (.bi .int [.v 2]) (.i 2147483399)) (.i
  20011))) (.i 11)]) (.i 2147483587)), .ret (.new (.lst [.ite (.or [.cmp .lt (.v 2) (.i 0), .cmp .ge (.v 2) (.bop .pow (.i 10) (.i 16))]) (.bi .abs [.v 2]) (.i 0), .v 3,
  .i 0]))]⟩
def fn__law_draw : Fn := ⟨2, 4,
[.ite (.cmp .gt (.ix (.v 0) (.i 0)) (.i 0)) [.asg (.t [.ix (.v 0) (.i 0), .v 3]) (.bi .divmod [.ix (.v 0) (.i 0), .v 1]), .ret (.v 3)] [], .asg (.ix (.v 0) (.i 2)) (.bop
  .add (.ix (.v 0) (.i 2)) (.i 1)), .asg (.v 2) (.bop .mod (.bi .int [.bop .add (.bop .add (.bop .mul (.ix (.v 0) (.i 1)) (.i 40014)) (.bop .mul (.ix (.v 0) (.i 2)) (.i
  52387))) (.i 5)]) (.i 2147483587)), .asg (.ix (.v 0) (.i 1)) (.v 2), .ret (.bop .mod (.bi .int [.bop .fdiv (.bop .mod (.bi .int [.bop .mul (.v 2) (.bop .add (.bop .mod
  (.bi .int [.v 2]) (.i 6007)) (.i 30029))]) (.i 2147483563)) (.i 127)]) (.v 1))]⟩
def fn__law_of : Fn := ⟨2, 2,
[.ret (.ix (.v 1) (.call "_law_draw" [.v 0, .bi .len [.v 1]]))]⟩
def fn__law_frac : Fn := ⟨2, 4,
[.par [2, 3] [.bi .abs [.v 0], .bi .abs [.v 1]], .while_ (.cmp .gt (.v 3) (.i 0)) [.par [2, 3] [.v 3, .bop .mod (.bi .int [.v 2]) (.v 3)]], .asg (.v 2) (.ite (.cmp .gt
  (.v 1) (.i 0)) (.v 2) (.bop .sub (.i 0) (.v 2))), .ret (.tup [.bop .fdiv (.v 0) (.v 2), .bop .fdiv (.v 1) (.v 2)])]⟩
def fn__law_plus : Fn := ⟨2, 2,
[.ret (.call "_law_frac" [.bop .add (.bop .mul (.ix (.v 0) (.i 0)) (.ix (.v 1) (.i 1))) (.bop .mul (.ix (.v 1) (.i 0)) (.ix (.v 0) (.i 1))), .bop .mul (.ix (.v 0) (.i 1))
  (.ix (.v 1) (.i 1))])]⟩
def fn__law_times : Fn := ⟨2, 2,
[.ret (.call "_law_frac" [.bop .mul (.ix (.v 0) (.i 0)) (.ix (.v 1) (.i 0)), .bop .mul (.ix (.v 0) (.i 1)) (.ix (.v 1) (.i 1))])]⟩
def fn__law_up_to : Fn := ⟨2, 2,
[.ret (.cmp .le (.bop .mul (.ix (.v 0) (.i 0)) (.ix (.v 1) (.i 1))) (.bop .mul (.ix (.v 1) (.i 0)) (.ix (.v 0) (.i 1))))]⟩
def fn__law_dot : Fn := ⟨2, 5,
[.asg (.v 2) (.tup [.i 0, .i 1]), .for_ (.t [.v 3, .v 4]) (.zip [.v 0, .v 1]) [.asg (.v 2) (.call "_law_plus" [.v 2, .call "_law_times" [.v 3, .v 4]])], .ret (.v 2)]⟩
def fn__law_number : Fn := ⟨1, 1,
[.ite (.cmp .gt (.call "_law_draw" [.v 0, .i 4]) (.i 0)) [.ret (.ix (.tup [.tup [.i 0, .i 1], .tup [.i 1, .i 1], .tup [.neg (.i 1), .i 1], .tup [.i 2, .i 1], .tup [.i 0,
  .i 1], .tup [.neg (.i 2), .i 1], .tup [.i 3, .i 1], .tup [.i 1, .i 1]]) (.call "_law_draw" [.v 0, .i 8]))] [], .ret (.call "_law_frac" [.bop .sub (.call "_law_draw" [.v
  0, .i 13]) (.i 6), .bop .add (.i 2) (.call "_law_draw" [.v 0, .i 3])])]⟩
def fn__law_row : Fn := ⟨2, 4,
[.asg (.v 2) (.new (.lst [])), .for_ (.v 3) (.rng [.v 1]) [.ex (.app (.v 2) (.call "_law_number" [.v 0]))], .fz 2, .ret (.bi .tuple [.v 2])]⟩
def fn__law_is_whole : Fn := ⟨1, 1,
[.ret (.and [.isi (.v 0) .int, .not (.isi (.v 0) .bool)])]⟩
def fn__law_is_frac : Fn := ⟨1, 1,
[.ite (.or [.not (.isi (.v 0) .tuple), .cmp .ne (.bi .len [.v 0]) (.i 2), .not (.call "_law_is_whole" [.ix (.v 0) (.i 0)]), .not (.call "_law_is_whole" [.ix (.v 0) (.i
  1)])]) [.ret (.b false)] [], .ret (.and [.cmp .gt (.ix (.v 0) (.i 1)) (.i 0), .cmp .eq (.call "_law_frac" [.ix (.v 0) (.i 0), .ix (.v 0) (.i 1)]) (.v 0)])]⟩
def fn__law_is_row : Fn := ⟨2, 3,
[.ret (.and [.isi (.v 0) .tuple, .cmp .eq (.bi .len [.v 0]) (.v 1), .bi .all [.lc (.call "_law_is_frac" [.v 2]) (.v 2) (.v 0) [] [2]]])]⟩
def fn__law_lies : Fn := ⟨2, 4,
[.ret (.bi .all [.lc (.call "_law_up_to" [.call "_law_dot" [.v 2, .v 1], .v 3]) (.t [.v 2, .v 3]) (.ix (.v 0) (.i 1)) [] [2, 3]])]⟩
def fn__law_lot : Fn := ⟨3, 10,
[.asg (.v 3) (.new (.lst [])), .for_ (.v 4) (.rng [.call "_law_draw" [.v 0, .bop .add (.v 2) (.i 1)]]) [.asg (.t [.v 5, .v 6]) (.tup [.call "_law_draw" [.v 0, .i 6],
  .call "_law_row" [.v 0, .v 1]]), .ite (.cmp .lt (.v 5) (.i 2)) [.asg (.v 7) (.call "_law_draw" [.v 0, .v 1]), .asg (.v 6) (.bi .tuple [.lc (.ite (.cmp .eq (.v 8) (.v
  7)) (.tup [.bop .sub (.i 1) (.bop .mul (.i 2) (.v 5)), .i 1]) (.tup [.i 0, .i 1])) (.v 8) (.rng [.v 1]) [] [8]])] [.ite (.and [.cmp .eq (.v 5) (.i 2), .cmp .ne (.v 3)
  (.lst [])]) [.asg (.v 6) (.bi .tuple [.lc (.tup [.bop .sub (.i 0) (.ix (.v 9) (.i 0)), .ix (.v 9) (.i 1)]) (.v 9) (.ix (.call "_law_of" [.v 0, .v 3]) (.i 0)) [] [9]])]
  []], .ex (.app (.v 3) (.tup [.v 6, .call "_law_number" [.v 0]]))], .fz 3, .ret (.tup [.v 1, .bi .tuple [.v 3]])]⟩
def fn__law_inside : Fn := ⟨3, 9,
[.par [3, 4, 5] [.call "_law_row" [.v 0, .v 1], .call "_law_lot" [.v 0, .v 1, .v 2], .new (.lst [])], .for_ (.t [.v 6, .v 7]) (.ix (.v 4) (.i 1)) [.asg (.v 8) (.call
  "_law_dot" [.v 6, .v 3]), .ite (.not (.call "_law_up_to" [.v 8, .v 7])) [.asg (.v 7) (.call "_law_plus" [.v 8, .call "_law_of" [.v 0, .tup [.tup [.i 0, .i 1], .tup [.i
  1, .i 2], .tup [.i 2, .i 1]]]])] [], .ex (.app (.v 5) (.tup [.v 6, .v 7]))], .fz 5, .ret (.tup [.v 3, .tup [.v 1, .bi .tuple [.v 5]]])]⟩
def fn__law_whole_wish : Fn := ⟨3, 5,
[.asg (.v 3) (.i 1), .for_ (.v 4) (.bop .add (.v 0) (.tup [.v 1])) [.asg (.v 3) (.bop .mul (.bop .fdiv (.v 3) (.call "_law_common" [.v 3, .ix (.v 4) (.i 1)])) (.ix (.v 4)
  (.i 1)))], .ret (.bop .add (.bi .tuple [.lc (.bop .mul (.ix (.v 4) (.i 0)) (.bop .fdiv (.v 3) (.ix (.v 4) (.i 1)))) (.v 4) (.bop .add (.v 0) (.tup [.v 1])) [] [4]])
  (.tup [.v 2]))]⟩
def fn__law_common : Fn := ⟨2, 2,
[.par [0, 1] [.bi .abs [.v 0], .bi .abs [.v 1]], .while_ (.cmp .gt (.v 1) (.i 0)) [.par [0, 1] [.v 1, .bop .mod (.bi .int [.v 0]) (.v 1)]], .ret (.v 0)]⟩
def fn__law_lowered : Fn := ⟨1, 3,
[.asg (.v 1) (.i 0), .for_ (.v 2) (.sl (.v 0) (.nob) (.neg (.i 1))) [.asg (.v 1) (.ite (.or [.cmp .ne (.v 1) (.i 0), .cmp .ne (.v 2) (.i 0)]) (.call "_law_common" [.v 1,
  .v 2]) (.i 0))], .ret (.ite (.cmp .lt (.v 1) (.i 2)) (.v 0) (.bop .add (.bi .tuple [.lc (.bop .fdiv (.v 2) (.v 1)) (.v 2) (.sl (.v 0) (.nob) (.neg (.i 1))) [] [2]])
  (.sl (.v 0) (.neg (.i 1)) (.nob))))]⟩
def fn__law_joined_wish : Fn := ⟨3, 8,
[.asg (.t [.v 4, .v 5]) (.tup [.ix (.v 0) (.v 2), .bop .sub (.i 0) (.ix (.v 1) (.v 2))]), .asg (.v 3) (.lc (.bop .add (.bop .mul (.v 5) (.v 6)) (.bop .mul (.v 4) (.v 7)))
  (.t [.v 6, .v 7]) (.zip [.sl (.v 0) (.nob) (.neg (.i 1)), .sl (.v 1) (.nob) (.neg (.i 1))]) [] [6, 7]), .ret (.call "_law_lowered" [.bop .add (.bi .tuple [.v 3]) (.tup
  [.bi .max [.ix (.v 0) (.neg (.i 1)), .ix (.v 1) (.neg (.i 1))]])])]⟩
def fn__law_is_void : Fn := ⟨2, 9,
[.asg (.v 2) (.ss (.lc (.call "_law_lowered" [.v 7]) (.v 7) (.v 0) [] [7])), .for_ (.v 3) (.rng [.v 1]) [.asg (.v 4) (.lc (.v 7) (.v 7) (.v 2) [.cmp .eq (.ix (.v 7) (.v
  3)) (.i 0)] [7]), .asg (.v 5) (.lc (.v 7) (.v 7) (.v 2) [.cmp .lt (.ix (.v 7) (.v 3)) (.i 0)] [7]), .for_ (.v 6) (.lc (.v 7) (.v 7) (.v 2) [.cmp .gt (.ix (.v 7) (.v 3))
  (.i 0)] [7]) [.asg (.v 4) (.bop .add (.v 4) (.lc (.call "_law_joined_wish" [.v 6, .v 8, .v 3]) (.v 8) (.v 5) [] [8]))], .asg (.v 2) (.ss (.v 4))], .ret (.bi .any [.lc
  (.cmp .lt (.ix (.v 7) (.v 1)) (.ix (.v 7) (.bop .add (.v 1) (.i 1)))) (.v 7) (.v 2) [] [7]])]⟩
def fn__law_lot_wishes : Fn := ⟨1, 3,
[.ret (.lc (.call "_law_whole_wish" [.v 1, .v 2, .i 0]) (.t [.v 1, .v 2]) (.ix (.v 0) (.i 1)) [] [1, 2])]⟩
def fn__law_right : Fn := ⟨1, 8,
[.asg (.v 1) (.bop .add (.i 1) (.call "_law_draw" [.v 0, .i 3])), .asg (.t [.v 3, .v 4]) (.call "_law_inside" [.v 0, .v 1, .i 6]), .for_ (.v 2) (.tup [.v 4, .call
  "_law_lot" [.v 0, .v 1, .i 6]]) [.asg (.v 5) (.call "point_of" [.v 2]), .ite (.not (.call "_law_same" [.callk ⟨"point_of", 0, ["lot"], [], [0]⟩ [] [.v 2], .v 5])) [.ret
  (.b false)] [], .ite (.call "_law_is_void" [.call "_law_lot_wishes" [.v 2], .v 1]) [.ite (.cmp .isn (.v 5) (.non)) [.ret (.b false)] []] [.ite (.or [.not (.call
  "_law_is_row" [.v 5, .v 1]), .not (.call "_law_lies" [.v 2, .v 5])]) [.ret (.b false)] []], .for_ (.v 6) (.tup [.v 3, .call "_law_row" [.v 0, .v 1], .call "_law_row"
  [.v 0, .v 1]]) [.asg (.v 7) (.bi .repr [.call "_law_lies" [.v 2, .v 6]]), .ite (.or [.cmp .ne (.bi .repr [.call "lies_in" [.v 2, .v 6]]) (.v 7), .cmp .ne (.bi .repr
  [.callk ⟨"lies_in", 0, ["point", "lot"], [], [1, 0]⟩ [] [.v 6, .v 2]]) (.v 7)]) [.ret (.b false)] []]], .ret (.cmp .isx (.call "lies_in" [.v 4, .v 3]) (.b true))]⟩
def fn_law : Fn := ⟨1, 2,
[.ret (.bi .all [.lc (.call "_law_right" [.call "_law_well" [.v 0, .v 1]]) (.v 1) (.rng [.bi .max [.i 1, .bi .min [.bi .len [.v 0], .i 3]]]) [] [1]])]⟩
def kes : List KE := [⟨"point_of", 0, ["lot"], [], [0]⟩, ⟨"lies_in", 0, ["point", "lot"], [], [1, 0]⟩, ⟨"is_lot_by", 1, [], [100], [0, 1]⟩]
def cst : List (String × D) := [("ZERO", .tuple [.int (0), .int (1)]), ("ONE", .tuple [.int (1), .int (1)]), ("LESS", .tuple [.int (-1), .int (1)]), ("MOST_SIZE", .int (12))]
def rw_is_whole : DR := ⟨"is_whole", "is_whole", 6, [Str.ofString "value"], fn_is_whole, []⟩
def rw_is_between : DR := ⟨"is_between", "is_between", 7, [Str.ofString "value", Str.ofString "low", Str.ofString "high"], fn_is_between, []⟩
def rw_are_wholes : DR := ⟨"are_wholes", "are_wholes", 8, [Str.ofString "value", Str.ofString "many", Str.ofString "each"], fn_are_wholes, []⟩
def rw_divisor_of : DR := ⟨"divisor_of", "divisor_of", 9, [Str.ofString "one", Str.ofString "two"], fn_divisor_of, []⟩
def rw_is_ratio : DR := ⟨"is_ratio", "is_ratio", 14, [Str.ofString "value"], fn_is_ratio, []⟩
def rw_ratio : DR := ⟨"ratio", "ratio", 15, [Str.ofString "top", Str.ofString "low", Str.ofString "part"], fn_ratio, []⟩
def rw_plus : DR := ⟨"plus", "plus", 16, [Str.ofString "one", Str.ofString "two"], fn_plus, []⟩
def rw_minus : DR := ⟨"minus", "minus", 17, [Str.ofString "one", Str.ofString "two"], fn_minus, []⟩
def rw_times : DR := ⟨"times", "times", 18, [Str.ofString "one", Str.ofString "two"], fn_times, []⟩
def rw_over : DR := ⟨"over", "over", 19, [Str.ofString "one", Str.ofString "two"], fn_over, []⟩
def rw_opposite : DR := ⟨"opposite", "opposite", 20, [Str.ofString "one"], fn_opposite, []⟩
def rw_is_up_to : DR := ⟨"is_up_to", "is_up_to", 21, [Str.ofString "one", Str.ofString "two"], fn_is_up_to, []⟩
def rw_is_below : DR := ⟨"is_below", "is_below", 22, [Str.ofString "one", Str.ofString "two"], fn_is_below, []⟩
def rw_dot : DR := ⟨"dot", "dot", 23, [Str.ofString "one", Str.ofString "two", Str.ofString "found", Str.ofString "here", Str.ofString "there"], fn_dot, []⟩
def rw_noughts : DR := ⟨"noughts", "noughts", 24, [Str.ofString "many"], fn_noughts, []⟩
def rw_unit : DR := ⟨"unit", "unit", 25, [Str.ofString "many", Str.ofString "at"], fn_unit, []⟩
def rw_scaled : DR := ⟨"scaled", "scaled", 26, [Str.ofString "row", Str.ofString "number", Str.ofString "each"], fn_scaled, []⟩
def rw_turned : DR := ⟨"turned", "turned", 27, [Str.ofString "row", Str.ofString "each"], fn_turned, []⟩
def rw_is_row_by : DR := ⟨"is_row_by", "is_row_by", 28, [Str.ofString "value", Str.ofString "many", Str.ofString "each"], fn_is_row_by, []⟩
def rw_check_row : DR := ⟨"check_row", "check_row", 30, [Str.ofString "many", Str.ofString "value", Str.ofString "index", Str.ofString "each"], fn_check_row, []⟩
def rw_first_board : DR := ⟨"first_board", "first_board", 32, [Str.ofString "columns", Str.ofString "right", Str.ofString "many", Str.ofString "signs", Str.ofString "board", Str.ofString "at", Str.ofString "sign", Str.ofString "row", Str.ofString "number", Str.ofString "column"], fn_first_board, []⟩
def rw_gaps : DR := ⟨"gaps", "gaps", 33, [Str.ofString "board", Str.ofString "basis", Str.ofString "costs", Str.ofString "found", Str.ofString "row", Str.ofString "column", Str.ofString "gap", Str.ofString "number"], fn_gaps, []⟩
def rw_leaving : DR := ⟨"leaving", "leaving", 34, [Str.ofString "board", Str.ofString "basis", Str.ofString "column", Str.ofString "found", Str.ofString "at", Str.ofString "row", Str.ofString "key"], fn_leaving, []⟩
def rw_turned_about : DR := ⟨"turned_about", "turned_about", 35, [Str.ofString "board", Str.ofString "at", Str.ofString "column", Str.ofString "lead", Str.ofString "found", Str.ofString "place", Str.ofString "row", Str.ofString "one", Str.ofString "two"], fn_turned_about, []⟩
def rw_descended : DR := ⟨"descended", "descended", 36, [Str.ofString "board", Str.ofString "basis", Str.ofString "costs", Str.ofString "many", Str.ofString "left", Str.ofString "helping", Str.ofString "at", Str.ofString "column"], fn_descended, []⟩
def rw_prices : DR := ⟨"prices", "prices", 37, [Str.ofString "left", Str.ofString "signs", Str.ofString "costs", Str.ofString "many", Str.ofString "at", Str.ofString "sign"], fn_prices, []⟩
def rw_driven_out : DR := ⟨"driven_out", "driven_out", 38, [Str.ofString "board", Str.ofString "basis", Str.ofString "many", Str.ofString "at", Str.ofString "others", Str.ofString "column"], fn_driven_out, []⟩
def rw_weights_by : DR := ⟨"weights_by", "weights_by", 39, [Str.ofString "board", Str.ofString "basis", Str.ofString "many", Str.ofString "found", Str.ofString "row", Str.ofString "column"], fn_weights_by, []⟩
def rw_least_by : DR := ⟨"least_by", "least_by", 40, [Str.ofString "columns", Str.ofString "right", Str.ofString "costs", Str.ofString "costing", Str.ofString "many", Str.ofString "rows", Str.ofString "board", Str.ofString "signs", Str.ofString "basis", Str.ofString "left", Str.ofString "row", Str.ofString "column"], fn_least_by, []⟩
def rw_void_by : DR := ⟨"void_by", "void_by", 41, [Str.ofString "rows", Str.ofString "bounds", Str.ofString "size", Str.ofString "columns", Str.ofString "found", Str.ofString "price", Str.ofString "row", Str.ofString "bound", Str.ofString "each"], fn_void_by, []⟩
def rw_is_wish : DR := ⟨"is_wish", "is_wish", 45, [Str.ofString "value", Str.ofString "size"], fn_is_wish, []⟩
def rw_is_lot_by : DR := ⟨"is_lot_by", "is_lot_by", 46, [Str.ofString "value", Str.ofString "most", Str.ofString "each"], fn_is_lot_by, [100]⟩
def rw_rows_in : DR := ⟨"rows_in", "rows_in", 47, [Str.ofString "lot", Str.ofString "row", Str.ofString "bound"], fn_rows_in, []⟩
def rw_bounds_in : DR := ⟨"bounds_in", "bounds_in", 48, [Str.ofString "lot", Str.ofString "row", Str.ofString "bound"], fn_bounds_in, []⟩
def rw_lies_by : DR := ⟨"lies_by", "lies_by", 49, [Str.ofString "lot", Str.ofString "point", Str.ofString "row", Str.ofString "bound"], fn_lies_by, []⟩
def rw_void_weights : DR := ⟨"void_weights", "void_weights", 50, [Str.ofString "lot"], fn_void_weights, []⟩
def rw_check_lot : DR := ⟨"check_lot", "check_lot", 52, [Str.ofString "value"], fn_check_lot, []⟩
def rw_lies_in : DR := ⟨"lies_in", "lies_in", 53, [Str.ofString "lot", Str.ofString "point"], fn_lies_in, []⟩
def rw_point_of : DR := ⟨"point_of", "point_of", 54, [Str.ofString "lot", Str.ofString "weights", Str.ofString "point"], fn_point_of, []⟩
def rw__law_same : DR := ⟨"_law_same", "_law_same", 56, [Str.ofString "told", Str.ofString "due", Str.ofString "x", Str.ofString "y"], fn__law_same, []⟩
def rw__law_well : DR := ⟨"_law_well", "_law_well", 57, [Str.ofString "script", Str.ofString "turn", Str.ofString "own", Str.ofString "seed", Str.ofString "cell"], fn__law_well, []⟩
def rw__law_draw : DR := ⟨"_law_draw", "_law_draw", 58, [Str.ofString "well", Str.ofString "many", Str.ofString "seed", Str.ofString "digit"], fn__law_draw, []⟩
def rw__law_of : DR := ⟨"_law_of", "_law_of", 59, [Str.ofString "well", Str.ofString "some"], fn__law_of, []⟩
def rw__law_frac : DR := ⟨"_law_frac", "_law_frac", 60, [Str.ofString "top", Str.ofString "low", Str.ofString "far", Str.ofString "near"], fn__law_frac, []⟩
def rw__law_plus : DR := ⟨"_law_plus", "_law_plus", 61, [Str.ofString "one", Str.ofString "two"], fn__law_plus, []⟩
def rw__law_times : DR := ⟨"_law_times", "_law_times", 62, [Str.ofString "one", Str.ofString "two"], fn__law_times, []⟩
def rw__law_up_to : DR := ⟨"_law_up_to", "_law_up_to", 63, [Str.ofString "one", Str.ofString "two"], fn__law_up_to, []⟩
def rw__law_dot : DR := ⟨"_law_dot", "_law_dot", 64, [Str.ofString "one", Str.ofString "two", Str.ofString "found", Str.ofString "here", Str.ofString "there"], fn__law_dot, []⟩
def rw__law_number : DR := ⟨"_law_number", "_law_number", 65, [Str.ofString "well"], fn__law_number, []⟩
def rw__law_row : DR := ⟨"_law_row", "_law_row", 66, [Str.ofString "well", Str.ofString "size", Str.ofString "found", Str.ofString "turn"], fn__law_row, []⟩
def rw__law_is_whole : DR := ⟨"_law_is_whole", "_law_is_whole", 67, [Str.ofString "thing"], fn__law_is_whole, []⟩
def rw__law_is_frac : DR := ⟨"_law_is_frac", "_law_is_frac", 68, [Str.ofString "thing"], fn__law_is_frac, []⟩
def rw__law_is_row : DR := ⟨"_law_is_row", "_law_is_row", 69, [Str.ofString "thing", Str.ofString "size", Str.ofString "each"], fn__law_is_row, []⟩
def rw__law_lies : DR := ⟨"_law_lies", "_law_lies", 70, [Str.ofString "lot", Str.ofString "point", Str.ofString "row", Str.ofString "bound"], fn__law_lies, []⟩
def rw__law_lot : DR := ⟨"_law_lot", "_law_lot", 71, [Str.ofString "well", Str.ofString "size", Str.ofString "most", Str.ofString "found", Str.ofString "turn", Str.ofString "way", Str.ofString "row", Str.ofString "spot", Str.ofString "at", Str.ofString "each"], fn__law_lot, []⟩
def rw__law_inside : DR := ⟨"_law_inside", "_law_inside", 72, [Str.ofString "well", Str.ofString "size", Str.ofString "most", Str.ofString "point", Str.ofString "lot", Str.ofString "found", Str.ofString "row", Str.ofString "bound", Str.ofString "worth"], fn__law_inside, []⟩
def rw__law_whole_wish : DR := ⟨"_law_whole_wish", "_law_whole_wish", 73, [Str.ofString "row", Str.ofString "bound", Str.ofString "strict", Str.ofString "times_v", Str.ofString "each"], fn__law_whole_wish, []⟩
def rw__law_common : DR := ⟨"_law_common", "_law_common", 74, [Str.ofString "one", Str.ofString "two"], fn__law_common, []⟩
def rw__law_lowered : DR := ⟨"_law_lowered", "_law_lowered", 75, [Str.ofString "wish", Str.ofString "by", Str.ofString "each"], fn__law_lowered, []⟩
def rw__law_joined_wish : DR := ⟨"_law_joined_wish", "_law_joined_wish", 76, [Str.ofString "one", Str.ofString "two", Str.ofString "spot", Str.ofString "both", Str.ofString "up", Str.ofString "down", Str.ofString "here", Str.ofString "there"], fn__law_joined_wish, []⟩
def rw__law_is_void : DR := ⟨"_law_is_void", "_law_is_void", 77, [Str.ofString "wishes", Str.ofString "size", Str.ofString "left", Str.ofString "spot", Str.ofString "found", Str.ofString "downs", Str.ofString "one", Str.ofString "wish", Str.ofString "two"], fn__law_is_void, []⟩
def rw__law_lot_wishes : DR := ⟨"_law_lot_wishes", "_law_lot_wishes", 78, [Str.ofString "lot", Str.ofString "row", Str.ofString "bound"], fn__law_lot_wishes, []⟩
def rw__law_right : DR := ⟨"_law_right", "_law_right", 79, [Str.ofString "well", Str.ofString "size", Str.ofString "some", Str.ofString "point", Str.ofString "lot", Str.ofString "told", Str.ofString "row", Str.ofString "due"], fn__law_right, []⟩
def rw_law : DR := ⟨"law", "law", 80, [Str.ofString "script", Str.ofString "turn"], fn_law, []⟩
def tb : List DR := [rw_is_whole, rw_is_between, rw_are_wholes, rw_divisor_of, rw_is_ratio, rw_ratio, rw_plus, rw_minus, rw_times, rw_over, rw_opposite, rw_is_up_to, rw_is_below, rw_dot, rw_noughts, rw_unit, rw_scaled, rw_turned, rw_is_row_by, rw_check_row, rw_first_board, rw_gaps, rw_leaving, rw_turned_about, rw_descended, rw_prices, rw_driven_out, rw_weights_by, rw_least_by, rw_void_by, rw_is_wish, rw_is_lot_by, rw_rows_in, rw_bounds_in, rw_lies_by, rw_void_weights, rw_check_lot, rw_lies_in, rw_point_of, rw__law_same, rw__law_well, rw__law_draw, rw__law_of, rw__law_frac, rw__law_plus, rw__law_times, rw__law_up_to, rw__law_dot, rw__law_number, rw__law_row, rw__law_is_whole, rw__law_is_frac, rw__law_is_row, rw__law_lies, rw__law_lot, rw__law_inside, rw__law_whole_wish, rw__law_common, rw__law_lowered, rw__law_joined_wish, rw__law_is_void, rw__law_lot_wishes, rw__law_right, rw_law]
abbrev Pf : String → Option Fn := pfOf tb
abbrev Gc : String → Option D := gOf cst
theorem p_is_whole : Pf "is_whole" = some fn_is_whole := by rfl
theorem p_is_between : Pf "is_between" = some fn_is_between := by rfl
theorem p_are_wholes : Pf "are_wholes" = some fn_are_wholes := by rfl
theorem p_divisor_of : Pf "divisor_of" = some fn_divisor_of := by rfl
theorem p_is_ratio : Pf "is_ratio" = some fn_is_ratio := by rfl
theorem p_ratio : Pf "ratio" = some fn_ratio := by rfl
theorem p_plus : Pf "plus" = some fn_plus := by rfl
theorem p_minus : Pf "minus" = some fn_minus := by rfl
theorem p_times : Pf "times" = some fn_times := by rfl
theorem p_over : Pf "over" = some fn_over := by rfl
theorem p_opposite : Pf "opposite" = some fn_opposite := by rfl
theorem p_is_up_to : Pf "is_up_to" = some fn_is_up_to := by rfl
theorem p_is_below : Pf "is_below" = some fn_is_below := by rfl
theorem p_dot : Pf "dot" = some fn_dot := by rfl
theorem p_noughts : Pf "noughts" = some fn_noughts := by rfl
theorem p_unit : Pf "unit" = some fn_unit := by rfl
theorem p_scaled : Pf "scaled" = some fn_scaled := by rfl
theorem p_turned : Pf "turned" = some fn_turned := by rfl
theorem p_is_row_by : Pf "is_row_by" = some fn_is_row_by := by rfl
theorem p_check_row : Pf "check_row" = some fn_check_row := by rfl
theorem p_first_board : Pf "first_board" = some fn_first_board := by rfl
theorem p_gaps : Pf "gaps" = some fn_gaps := by rfl
theorem p_leaving : Pf "leaving" = some fn_leaving := by rfl
theorem p_turned_about : Pf "turned_about" = some fn_turned_about := by rfl
theorem p_descended : Pf "descended" = some fn_descended := by rfl
theorem p_prices : Pf "prices" = some fn_prices := by rfl
theorem p_driven_out : Pf "driven_out" = some fn_driven_out := by rfl
theorem p_weights_by : Pf "weights_by" = some fn_weights_by := by rfl
theorem p_least_by : Pf "least_by" = some fn_least_by := by rfl
theorem p_void_by : Pf "void_by" = some fn_void_by := by rfl
theorem p_is_wish : Pf "is_wish" = some fn_is_wish := by rfl
theorem p_is_lot_by : Pf "is_lot_by" = some fn_is_lot_by := by rfl
theorem p_rows_in : Pf "rows_in" = some fn_rows_in := by rfl
theorem p_bounds_in : Pf "bounds_in" = some fn_bounds_in := by rfl
theorem p_lies_by : Pf "lies_by" = some fn_lies_by := by rfl
theorem p_void_weights : Pf "void_weights" = some fn_void_weights := by rfl
theorem p_check_lot : Pf "check_lot" = some fn_check_lot := by rfl
theorem p_lies_in : Pf "lies_in" = some fn_lies_in := by rfl
theorem p_point_of : Pf "point_of" = some fn_point_of := by rfl
theorem p__law_same : Pf "_law_same" = some fn__law_same := by rfl
theorem p__law_well : Pf "_law_well" = some fn__law_well := by rfl
theorem p__law_draw : Pf "_law_draw" = some fn__law_draw := by rfl
theorem p__law_of : Pf "_law_of" = some fn__law_of := by rfl
theorem p__law_frac : Pf "_law_frac" = some fn__law_frac := by rfl
theorem p__law_plus : Pf "_law_plus" = some fn__law_plus := by rfl
theorem p__law_times : Pf "_law_times" = some fn__law_times := by rfl
theorem p__law_up_to : Pf "_law_up_to" = some fn__law_up_to := by rfl
theorem p__law_dot : Pf "_law_dot" = some fn__law_dot := by rfl
theorem p__law_number : Pf "_law_number" = some fn__law_number := by rfl
theorem p__law_row : Pf "_law_row" = some fn__law_row := by rfl
theorem p__law_is_whole : Pf "_law_is_whole" = some fn__law_is_whole := by rfl
theorem p__law_is_frac : Pf "_law_is_frac" = some fn__law_is_frac := by rfl
theorem p__law_is_row : Pf "_law_is_row" = some fn__law_is_row := by rfl
theorem p__law_lies : Pf "_law_lies" = some fn__law_lies := by rfl
theorem p__law_lot : Pf "_law_lot" = some fn__law_lot := by rfl
theorem p__law_inside : Pf "_law_inside" = some fn__law_inside := by rfl
theorem p__law_whole_wish : Pf "_law_whole_wish" = some fn__law_whole_wish := by rfl
theorem p__law_common : Pf "_law_common" = some fn__law_common := by rfl
theorem p__law_lowered : Pf "_law_lowered" = some fn__law_lowered := by rfl
theorem p__law_joined_wish : Pf "_law_joined_wish" = some fn__law_joined_wish := by rfl
theorem p__law_is_void : Pf "_law_is_void" = some fn__law_is_void := by rfl
theorem p__law_lot_wishes : Pf "_law_lot_wishes" = some fn__law_lot_wishes := by rfl
theorem p__law_right : Pf "_law_right" = some fn__law_right := by rfl
theorem p_law : Pf "law" = some fn_law := by rfl
end Lw
namespace Lw
open PySem PySem.Spec PyProof.Rows L2 Sx
abbrev pg : Program := PySem.Challenge.pw_surehelms_k03_whole_points_of_lots
abbrev rowL : PySem.W.OpenRow := PySem.W.OpenLaw.row PySem.Challenge.rw_surehelms_k03_whole_points_of_lots
def loo0 : List Str := [Str.ofString "gcd", Str.ofString "HelmError", Str.ofString "InvalidLot", Str.ofString "InvalidRow", Str.ofString "is_whole", Str.ofString "is_between", Str.ofString "are_wholes", Str.ofString "divisor_of", Str.ofString "ZERO", Str.ofString "ONE", Str.ofString "LESS", Str.ofString "is_ratio", Str.ofString "ratio", Str.ofString "plus", Str.ofString "minus", Str.ofString "times", Str.ofString "over", Str.ofString "opposite", Str.ofString "is_up_to", Str.ofString "is_below", Str.ofString "dot", Str.ofString "noughts", Str.ofString "unit", Str.ofString "scaled", Str.ofString "turned", Str.ofString "is_row_by", Str.ofString "check_row", Str.ofString "first_board", Str.ofString "gaps", Str.ofString "leaving"]
def loo1 : List Str := [Str.ofString "turned_about", Str.ofString "descended", Str.ofString "prices", Str.ofString "driven_out", Str.ofString "weights_by", Str.ofString "least_by", Str.ofString "void_by", Str.ofString "MOST_SIZE", Str.ofString "MOST_WISHES", Str.ofString "is_wish", Str.ofString "is_lot_by", Str.ofString "rows_in", Str.ofString "bounds_in", Str.ofString "lies_by", Str.ofString "void_weights", Str.ofString "check_lot", Str.ofString "lies_in", Str.ofString "point_of", Str.ofString "_law_same", Str.ofString "_law_well", Str.ofString "_law_draw", Str.ofString "_law_of", Str.ofString "_law_frac", Str.ofString "_law_plus", Str.ofString "_law_times", Str.ofString "_law_up_to", Str.ofString "_law_dot", Str.ofString "_law_number", Str.ofString "_law_row", Str.ofString "_law_is_whole"]
def loo2 : List Str := [Str.ofString "_law_is_frac", Str.ofString "_law_is_row", Str.ofString "_law_lies", Str.ofString "_law_lot", Str.ofString "_law_inside", Str.ofString "_law_whole_wish", Str.ofString "_law_common", Str.ofString "_law_lowered", Str.ofString "_law_joined_wish", Str.ofString "_law_is_void", Str.ofString "_law_lot_wishes", Str.ofString "_law_right"]
def loo : List Str := loo0 ++ loo1 ++ loo2
abbrev gcy : Bool := true
def its : List Mn := [.s "__name__", .s "__doc__", .s "__package__", .s "__loader__", .s "__spec__", .s "__annotations__", .s "__builtins__", .s "__file__", .s "__cached__", .b "gcd"
  "math.gcd", .s "HelmError", .s "InvalidLot", .s "InvalidRow", .d rw_is_whole, .d rw_is_between, .d rw_are_wholes, .d rw_divisor_of, .c "ZERO" (.tuple [.int (0), .int
  (1)]), .c "ONE" (.tuple [.int (1), .int (1)]), .c "LESS" (.tuple [.int (-1), .int (1)]), .d rw_is_ratio, .d rw_ratio, .d rw_plus, .d rw_minus, .d rw_times, .d rw_over,
  .d rw_opposite, .d rw_is_up_to, .d rw_is_below, .d rw_dot, .d rw_noughts, .d rw_unit, .d rw_scaled, .d rw_turned, .d rw_is_row_by, .d rw_check_row, .d rw_first_board,
  .d rw_gaps, .d rw_leaving, .d rw_turned_about, .d rw_descended, .d rw_prices, .d rw_driven_out, .d rw_weights_by, .d rw_least_by, .d rw_void_by, .c "MOST_SIZE" (.int
  (12)), .s "MOST_WISHES", .d rw_is_wish, .d rw_is_lot_by, .d rw_rows_in, .d rw_bounds_in, .d rw_lies_by, .d rw_void_weights, .d rw_check_lot, .d rw_lies_in, .d
  rw_point_of, .d rw__law_same, .d rw__law_well, .d rw__law_draw, .d rw__law_of, .d rw__law_frac, .d rw__law_plus, .d rw__law_times, .d rw__law_up_to, .d rw__law_dot, .d
  rw__law_number, .d rw__law_row, .d rw__law_is_whole, .d rw__law_is_frac, .d rw__law_is_row, .d rw__law_lies, .d rw__law_lot, .d rw__law_inside, .d rw__law_whole_wish,
  .d rw__law_common, .d rw__law_lowered, .d rw__law_joined_wish, .d rw__law_is_void, .d rw__law_lot_wishes, .d rw__law_right, .d rw_law]
theorem its_nd : (its.map Mn.nm).Nodup := by decide +kernel
theorem its_ok : MnOk its tb cst gcy := ⟨by rfl, by rfl, fun _ => List.mem_of_find?_eq_some (p := fun i => match i with | .b _ _ => true | _ => false) rfl, by decide +kernel⟩
abbrev hoo : PySem.W.Hook := hookH its pg its_nd
def obF (s : PySem.W.SharedT) : AlH := obsH its (HandSHeadRun.getT s)
theorem obF_eq (s : PySem.W.SharedT) : obF s = hoo.obs s.abs := obsH_eq (HandSHeadRun.getT_eq s)
theorem head_f (w : World) : HandSHeadRun.RunEqI rowL (PySem.W.view rowL.prog [0, 80]) hoo obF 6000 loo (w.withFollow "special-get-raises" false) := by unfold HandSHeadRun.RunEqI; kernel_rfl
theorem head_t (w : World) : HandSHeadRun.RunEqI rowL (PySem.W.view rowL.prog [0, 80]) hoo obF 6000 loo (w.withFollow "special-get-raises" true) := by unfold HandSHeadRun.RunEqI; kernel_rfl
theorem head_run (w : World) : HandSHeadRun.RunEqI rowL (PySem.W.view rowL.prog [0, 80]) hoo obF 6000 loo w :=
  PySem.W.byRow2 "special-get-raises" (P := fun w => HandSHeadRun.RunEqI rowL (PySem.W.view rowL.prog [0, 80]) hoo obF 6000 loo w) head_f head_t w
theorem tb_nd : (tb.map (·.nm)).Nodup := by decide +kernel
theorem tb_ok : (tb.all fun r => r.ok (fnsOf tb) (cst.map (·.1)) kes gcy pg) = true := by decide +kernel
def ke0 : KE := ⟨"point_of", 0, ["lot"], [], [0]⟩
def dr0 : DR := ((tb.find? fun r => r.nm == "point_of").getD ⟨"", "", 0, [], ⟨0, 0, []⟩, []⟩)
theorem kb0 : KbOk pg dr0 ke0 := fun _ _ _ _ _ _ us ws h1 h2 => match us, ws, h1, h2 with | [], [b0], _, _ => by rfl
def ke1 : KE := ⟨"lies_in", 0, ["point", "lot"], [], [1, 0]⟩
def dr1 : DR := ((tb.find? fun r => r.nm == "lies_in").getD ⟨"", "", 0, [], ⟨0, 0, []⟩, []⟩)
theorem kb1 : KbOk pg dr1 ke1 := fun _ _ _ _ _ _ us ws h1 h2 => match us, ws, h1, h2 with | [], [b0, b1], _, _ => by rfl
def ke2 : KE := ⟨"is_lot_by", 1, [], [100], [0, 1]⟩
def dr2 : DR := ((tb.find? fun r => r.nm == "is_lot_by").getD ⟨"", "", 0, [], ⟨0, 0, []⟩, []⟩)
theorem kb2 : KbOkD pg dr2 ke2 [0] := fun T _ _ _ _ _ _ us ws its h1 h2 h3 => match us, ws, its, h1, h2, h3 with | [a0], [], [d0], _, _, _ => ⟨_, by rfl, by rfl⟩
theorem kb_all {K : PySem.W.Frag} : ∀ q ∈ kes, ∃ r ∈ tb, r.nm = q.f ∧ ∀ a fd, FunR pg r K a fd → ∀ (s : Shared) (us ws : List Value), K.In s.heap → us.length = q.n → ws.length = q.kns.length → ∃ bs : List Value, BindsTo s fd ⟨us, (q.kns.map Str.ofString).zip ws⟩ ((r.ps pg).zip bs) ∧ ∀ vs zs : List V, Vals vs us → Vals zs ws → Vals (q.pm.map fun i => (vs ++ zs ++ q.dv.map V.int).getD i .non) bs := by
  intro q hq
  simp only [kes, List.mem_cons, List.not_mem_nil, or_false] at hq
  rcases hq with rfl | rfl | rfl
  · exact ⟨dr0, List.mem_of_find?_eq_some (p := fun r => r.nm == "point_of") rfl, rfl, fun a fd F => DR.kbinds F rfl rfl kb0⟩
  · exact ⟨dr1, List.mem_of_find?_eq_some (p := fun r => r.nm == "lies_in") rfl, rfl, fun a fd F => DR.kbinds F rfl rfl kb1⟩
  · exact ⟨dr2, List.mem_of_find?_eq_some (p := fun r => r.nm == "is_lot_by") rfl, rfl, fun a fd F => DR.kbindsD F [0] (by decide) rfl kb2⟩
theorem l_mem : (⟨"law", "law", 80, [Str.ofString "script", Str.ofString "turn"], fn_law, []⟩ : DR) ∈ tb := List.mem_of_find?_eq_some (p := fun r => r.nm == "law") rfl
end Lw
section
open PySem PySem.W PySem.Calls PyProof.Rows
theorem Lw.main_of {kk : Nat} (hr : L2.Room kk callerA) (plain : ∀ ns : List Int, ns.length ≤ 63 → (∀ z ∈ ns, Builtin.Int.intBits z ≤ 1048576) → ∃ S', Sx.runF Lw.Pf Lw.Gc kk "law" [.ref 0] [.ro (ns.map PyData.int)] = .ok (.d (.bool true)) S') : PySem.Challenge.rw_surehelms_k03_whole_points_of_lots.Holds := by
  w_on; o_law
  refine HandSHeadRun.head_imp (r := Lw.rowL) (q := view Lw.rowL.prog [0, 80]) (H := Lw.hoo) (ob := Lw.obF) (M := 6000) (loose := Lw.loo) (d := HandSHeadRun.topDef Lw.rowL.prog 80) (kwd := []) Lw.obF_eq
    Lw.head_run (by kernel_rfl) (by kernel_rfl) (by kernel_rfl) (by rfl) (by first | assumption | decide +kernel) (by decide +kernel) ⟨rfl, rfl, rfl, rfl, rfl, by decide +kernel⟩ ?hw ?hc
  case hw => w_witness2
  case hc =>
    refine Sx.walk_end (l := PySem.Challenge.rw_surehelms_k03_whole_points_of_lots) (n := 63) (k := kk) (x := Str.ofString "script") (CX := L2.CX0) rfl (by decide) (by kernel_rfl) hr ?F (fun _ _ _ _ z => z)
    intro w mg fa h Y G hmg0
    obtain ⟨K, KX, c⟩ := Y
    have hmg : mg (Str.ofString "law") = some (.ref fa) := by
      have e : (HandSHeadRun.topDef Lw.rowL.prog 80).name = Str.ofString "law" := by kernel_rfl
      rw [← e]; exact hmg0
    obtain ⟨fd, hb, hF⟩ := Sx.law_defH (w := w) (k := kk) (p := Lw.pg) KX G Lw.its_ok c Lw.tb_nd Lw.tb_ok Lw.kb_all Lw.l_mem rfl (x := Str.ofString "script") rfl hmg
    exact ⟨K, fd, _, KX, hb, fun H a ns hl hz hO hS => Sx.promise_of hO hS (plain ns hl hz), fun base hk hn => hF base hk hn⟩
end
set_option Elab.async false
set_option linter.all false
set_option maxRecDepth 100000
set_option maxHeartbeats 1000000
/-! Sx, part S: plain: cells, urns. -/
namespace Sx
open PySem PySem.Spec
def cellD : Option Cell → Option D
  | some (.lst ds) => some (.list ds)
  | some (.ro ds) => some (.list ds)
  | _ => none
def cellW : Option Cell → Option D
  | some (.lst ds) => some (.list ds)
  | _ => none
def cellL : Option Cell → Option (List D)
  | some (.lst ds) => some ds
  | _ => none
@[simp] theorem cellD_l (ds : List D) : cellD (some (.lst ds)) = some (.list ds) := rfl
@[simp] theorem cellD_r (ds : List D) : cellD (some (.ro ds)) = some (.list ds) := rfl
@[simp] theorem cellW_l (ds : List D) : cellW (some (.lst ds)) = some (.list ds) := rfl
@[simp] theorem cellL_l (ds : List D) : cellL (some (.lst ds)) = some ds := rfl
@[simp] theorem asD_r (i : Nat) (S : Store) : asD (.ref i) S = cellD S[i]? := by
  cases h : S[i]? with
  | none => simp [asD, cellD, h]
  | some c => cases c <;> simp [asD, cellD, h]
@[simp] theorem asW_r (i : Nat) (S : Store) : asW (.ref i) S = cellW S[i]? := by
  cases h : S[i]? with
  | none => simp [asW, cellW, h]
  | some c => cases c <;> simp [asW, cellW, h]
@[simp] theorem cellOf_r (i : Nat) (S : Store) : cellOf (.ref i) S = cellL S[i]? := by
  cases h : S[i]? with
  | none => simp [cellOf, cellL, h]
  | some c => cases c <;> simp [cellOf, cellL, h]
def putD (i : Nat) (j : Int) (y : D) (S : Store) : Option (List D) → Out Unit
  | some ds => match L2.ixN ds.length j with
    | some n => .ok () (S.set i (.lst (ds.set n y)))
    | none => .bad
  | none => .bad
@[simp] theorem setD_r (i : Nat) (j : Int) (y : D) (S : Store) : setD (.ref i) (.d (.int j)) (.d y) S = putD i j y S (cellL S[i]?) := by
  cases h : S[i]? with
  | none => simp [setD, cellL, putD, h]
  | some c => cases c <;> simp [setD, cellL, putD, h] <;> rfl
theorem putD_at {i : Nat} {j : Int} {y : D} {S : Store} {ds : List D} {n : Nat} (h : L2.ixN ds.length j = some n) : putD i j y S (some ds) = .ok () (S.set i (.lst (ds.set n y))) := by
  simp only [putD, h]
@[simp] theorem putD_30 (i : Nat) (y a b c : D) (S : Store) : putD i 0 y S (some [a, b, c]) = .ok () (S.set i (.lst [y, b, c])) := putD_at (n := 0) rfl
@[simp] theorem putD_31 (i : Nat) (y a b c : D) (S : Store) : putD i 1 y S (some [a, b, c]) = .ok () (S.set i (.lst [a, y, c])) := putD_at (n := 1) rfl
@[simp] theorem putD_32 (i : Nat) (y a b c : D) (S : Store) : putD i 2 y S (some [a, b, c]) = .ok () (S.set i (.lst [a, b, y])) := putD_at (n := 2) rfl
def pushC (i : Nat) (y : D) (S : Store) : Option (List D) → Out R
  | some ds => if decide (ds.length < sizeLine) then .ok (.d .none) (S.set i (.lst (ds ++ [y]))) else .bad
  | none => .bad
@[simp] theorem appD_r (i : Nat) (y : D) (S : Store) : appD (.ref i) (.d y) S = pushC i y S (cellL S[i]?) := by
  cases h : S[i]? with
  | none => simp [appD, cellL, pushC, h]
  | some c => cases c <;> simp [appD, cellL, pushC, h] <;> rfl
theorem pushC_at {i : Nat} {y : D} {S : Store} {ds : List D} (h : ds.length < sizeLine) : pushC i y S (some ds) = .ok (.d .none) (S.set i (.lst (ds ++ [y]))) := by
  simp [pushC, h]
@[simp] theorem newD_l (ds : List D) (S : Store) : newD (.d (.list ds)) S = .ok (.ref S.length) (S ++ [.lst ds]) := rfl
theorem get_set {S : Store} {i : Nat} {c : Cell} (h : i < S.length) : (S.set i c)[i]? = some c := List.getElem?_set_self h
theorem get_set_ne {S : Store} {i j : Nat} {c : Cell} (h : i ≠ j) : (S.set i c)[j]? = S[j]? := List.getElem?_set_ne h
theorem get_app {S : Store} {i : Nat} {c : Cell} (h : i < S.length) : (S ++ [c])[i]? = S[i]? := List.getElem?_append_left h
@[simp] theorem get_new {S : Store} {c : Cell} : (S ++ [c])[S.length]? = some c := by simp
@[simp] theorem take_set {S : Store} {i : Nat} {c : Cell} : (S.set i c).take S.length = S.set i c := List.take_of_length_le (by simp)
@[simp] theorem take_new {S : Store} {c : Cell} : (S ++ [c]).take S.length = S := by simp
@[simp] theorem take_keep {S : Store} {c : Cell} : (S ++ [c]).take (max S.length (S.length + 1)) = S ++ [c] := List.take_of_length_le (by simp)
@[simp] theorem take_keep1 {S : Store} {c : Cell} : (S ++ [c]).take (S.length + 1) = S ++ [c] := List.take_of_length_le (by simp)
theorem take_same {S' : Store} {n : Nat} (h : S'.length = n) : S'.take n = S' := List.take_of_length_le (by omega)
theorem cutD_mem {xs : List D} {lo hi : Option Int} {x : D} (h : x ∈ cutD xs lo hi) : x ∈ xs := by
  unfold cutD at h
  exact List.mem_of_mem_drop (List.mem_of_mem_take h)
theorem cutD_int {ns : List Int} {lo hi : Option Int} {j : Nat} {x : D} (h : (cutD (ns.map PyData.int) lo hi)[j]? = some x) : ∃ m : Int, x = .int m := by
  obtain ⟨m, _, e⟩ := List.mem_map.mp (cutD_mem (List.mem_of_getElem? h))
  exact ⟨m, e.symm⟩
theorem atI_at {t : Type} {xs : List t} {n : Int} (h0 : 0 ≤ n) (h1 : n < xs.length) : ∃ d ∈ xs, L2.atI xs n = some d := by
  have h : n.toNat < xs.length := by omega
  refine ⟨xs[n.toNat], List.getElem_mem h, ?_⟩
  unfold L2.atI L2.ixN
  rw [if_pos h0, if_pos h1]
  simp [h]
/-- but for the cell i all is as it was -/
def Same (i : Nat) (S S' : Store) : Prop := S'.length = S.length ∧ ∀ j, j ≠ i → S'[j]? = S[j]?
theorem Same.refl (i : Nat) (S : Store) : Same i S S := ⟨rfl, fun _ _ => rfl⟩
theorem Same.trans {i : Nat} {S S' S'' : Store} (a : Same i S S') (b : Same i S' S'') : Same i S S'' := ⟨b.1.trans a.1, fun j h => (b.2 j h).trans (a.2 j h)⟩
theorem Same.set (i : Nat) (S : Store) (c : Cell) : Same i S (S.set i c) := ⟨by simp, fun j h => get_set_ne (Ne.symm h)⟩
/-- but for the cell i what was there is as it was; more may stand behind -/
def Ext (i : Nat) (S S' : Store) : Prop := S.length ≤ S'.length ∧ ∀ j, j ≠ i → j < S.length → S'[j]? = S[j]?
theorem Ext.refl (i : Nat) (S : Store) : Ext i S S := ⟨Nat.le_refl _, fun _ _ _ => rfl⟩
theorem Same.ext {i : Nat} {S S' : Store} (h : Same i S S') : Ext i S S' := ⟨Nat.le_of_eq h.1.symm, fun j hj _ => h.2 j hj⟩
theorem Ext.trans {i : Nat} {S S' S'' : Store} (a : Ext i S S') (b : Ext i S' S'') : Ext i S S'' := ⟨Nat.le_trans a.1 b.1, fun j h l => (b.2 j h (Nat.lt_of_lt_of_le l a.1)).trans (a.2 j h l)⟩
theorem Ext.app (i : Nat) (S : Store) (c : Cell) : Ext i S (S ++ [c]) := ⟨by simp, fun j _ l => get_app l⟩
theorem Ext.set {i : Nat} {S S' : Store} (h : Ext i S S') {j : Nat} (hj : S.length ≤ j) (c : Cell) : Ext i S (S'.set j c) := ⟨by rw [List.length_set]; exact h.1, fun k hk l => by rw [get_set_ne (by omega)]; exact h.2 k hk l⟩
theorem Ext.same {i : Nat} {S S' : Store} (h : Ext i S S') : Same i S (S'.take S.length) := by
  refine ⟨by rw [List.length_take]; have := h.1; omega, fun j hj => ?_⟩
  by_cases hl : j < S.length
  · rw [List.getElem?_take_of_lt hl]; exact h.2 j hj hl
  · rw [List.getElem?_eq_none (by rw [List.length_take]; omega), List.getElem?_eq_none (by omega)]
theorem get_take {S : Store} {n j : Nat} (h : j < n) : (S.take n)[j]? = S[j]? := List.getElem?_take_of_lt h
/-- an urn, good for b pulls yet -/
def Urn (S : Store) (i : Nat) (b : Int) : Prop := ∃ a s c : Int, S[i]? = some (.lst [.int a, .int s, .int c]) ∧ 0 ≤ a ∧ 0 ≤ s ∧ s < 2 ^ 64 ∧ 0 ≤ c ∧ c + b ≤ 2 ^ 190
theorem Urn.weak {S : Store} {i : Nat} {b b' : Int} (h : Urn S i b) (l : b' ≤ b) : Urn S i b' := by
  obtain ⟨a, s, c, h1, h2, h3, h4, h5, h6⟩ := h
  exact ⟨a, s, c, h1, h2, h3, h4, h5, by omega⟩
theorem Urn.lt {S : Store} {i : Nat} {b : Int} (h : Urn S i b) : i < S.length := by
  obtain ⟨a, s, c, h1, _⟩ := h
  exact lt_of_get h1
theorem Urn.of_eq {S S' : Store} {i : Nat} {b : Int} (h : Urn S i b) (e : S'[i]? = S[i]?) : Urn S' i b := by
  obtain ⟨a, s, c, h1, h2⟩ := h
  exact ⟨a, s, c, e.trans h1, h2⟩
theorem Urn.take {S : Store} {i n : Nat} {b : Int} (h : Urn S i b) (l : i < n) : Urn (S.take n) i b := h.of_eq (get_take l)
theorem Urn.set {S : Store} {i j : Nat} {b : Int} {c : Cell} (h : Urn S i b) (l : j ≠ i) : Urn (S.set j c) i b := h.of_eq (get_set_ne l)
theorem Urn.app {S : Store} {i : Nat} {b : Int} {c : Cell} (h : Urn S i b) : Urn (S ++ [c]) i b := h.of_eq (get_app h.lt)
/-- a number drawn -/
def Drew (i : Nat) (S : Store) (top b : Int) (r : R) (S' : Store) : Prop := ∃ n : Int, r = .d (.int n) ∧ 0 ≤ n ∧ n < top ∧ Urn S' i b ∧ Same i S S'
/-! ### what repr shows -/
/-- d may be shown: its text has B signs at most, it is k deep at most -/
structure Sml (B k : Nat) (d : D) : Prop where
  lay : d.canLay0 = true
  shw : d.showable = true
  deep : d.depth ≤ k
  len : d.shown.length ≤ B
theorem Sml.ok {B k : Nat} {d : D} (h : Sml B k d) (hB : B ≤ 16777216) (hk : k ≤ 64) : reprOk d = true := by
  unfold reprOk
  simp only [Bool.and_eq_true, decide_eq_true_eq]
  exact ⟨⟨⟨h.shw, h.lay⟩, Nat.le_trans h.deep hk⟩, Nat.le_trans h.len (by unfold sizeLine; omega)⟩
theorem Sml.weak {B B' k k' : Nat} {d : D} (h : Sml B k d) (hB : B ≤ B') (hk : k ≤ k') : Sml B' k' d := ⟨h.lay, h.shw, Nat.le_trans h.deep hk, Nat.le_trans h.len hB⟩
theorem sml_none : Sml 4 0 .none := ⟨rfl, rfl, Nat.le_refl _, by decide⟩
theorem sml_bool (b : Bool) : Sml 5 0 (.bool b) := ⟨rfl, rfl, Nat.le_refl _, by cases b <;> decide⟩
theorem sml_int {i : Int} {a : Nat} (h : i.natAbs < 2 ^ a) (ha : a ≤ 1900) (ha0 : 0 < a) : Sml 1901 0 (.int i) := by
  have h1 := log2_lt h ha0
  refine ⟨rfl, by simp only [PyData.showable, decide_eq_true_eq]; omega, Nat.le_refl _, ?_⟩
  have e := int_text_length_le (a := i) (k := 1900) (by decide) (by omega)
  show (Str.ofString (toString i)).length ≤ _
  rw [ofString_length]; exact e
theorem sml_i {i : Int} (h : -(2 ^ 200) < i ∧ i < 2 ^ 200) : Sml 1901 0 (.int i) := sml_int (a := 200) (by omega) (by decide) (by decide)
theorem sml_all {B k : Nat} : ∀ {xs : List D}, (∀ x ∈ xs, Sml B k x) → PyData.canLayAll0 xs = true ∧ PyData.showableAll xs = true ∧ PyData.depthAll xs ≤ k ∧ ((PyData.shownAll xs).map (·.length)).sum ≤ xs.length * B ∧ (PyData.shownAll xs).length = xs.length
  | [], _ => ⟨rfl, rfl, Nat.zero_le _, by simp [PyData.shownAll], rfl⟩
  | x :: xs, h => by
    have h1 := h x (List.mem_cons_self)
    obtain ⟨i1, i2, i3, i4, i5⟩ := sml_all (xs := xs) fun y hy => h y (List.mem_cons_of_mem _ hy)
    refine ⟨by simp only [PyData.canLayAll0, h1.lay, i1]; rfl, by simp only [PyData.showableAll, h1.shw, i2]; rfl, ?_, ?_, by simp only [PyData.shownAll, List.length_cons, i5]⟩
    · have := h1.deep
      simp only [PyData.depthAll]; omega
    · have := h1.len
      simp only [PyData.shownAll, List.map_cons, List.sum_cons, List.length_cons, Nat.add_mul]
      omega
theorem sml_list {B k : Nat} {xs : List D} (h : ∀ x ∈ xs, Sml B k x) : Sml (xs.length * (B + 2) + 3) (k + 1) (.list xs) := by
  obtain ⟨i1, i2, i3, i4, i5⟩ := sml_all h
  refine ⟨i1, i2, by simp only [PyData.depth]; omega, ?_⟩
  have := listText_len_le (PyData.shownAll xs)
  simp only [PyData.shown]
  rw [i5] at this
  rw [Nat.mul_add]
  omega
theorem sml_tuple {B k : Nat} {xs : List D} (h : ∀ x ∈ xs, Sml B k x) : Sml (xs.length * (B + 2) + 3) (k + 1) (.tuple xs) := by
  obtain ⟨i1, i2, i3, i4, i5⟩ := sml_all h
  refine ⟨i1, i2, by simp only [PyData.depth]; omega, ?_⟩
  have := tupleText_len_le (PyData.shownAll xs)
  simp only [PyData.shown]
  rw [i5] at this
  rw [Nat.mul_add]
  omega
end Sx
set_option Elab.async false
set_option linter.all false
set_option maxRecDepth 100000
set_option maxHeartbeats 1000000
/-! Sx, part T: plain: comprehensions, while. -/
namespace Sx
open PySem PySem.Spec
section
variable {fi : Ev → Store → Out (List D)} {own : List Nat} {fg : R → Ev → Store → Out Ev} {ft : Ev → Store → Out Bool} {fe : Fe} {e : Ev} {S : Store} {xs : List D} {f : D → Option D}
theorem lcD_run (step : D → Store → Out (Option D)) : ∀ (xs acc : List D), (∀ x ∈ xs, ∀ acc, step x (S ++ [.lst acc]) = .ok (f x) (S ++ [.lst acc])) → acc.length + xs.length ≤ 16777216 →
    lcD S.length step xs (S ++ [.lst acc]) = .ok () (S ++ [.lst (acc ++ xs.filterMap f)])
  | [], acc, _, _ => by simp [lcD]
  | x :: xs, acc, h, hl => by
    rw [List.length_cons] at hl
    unfold lcD
    rw [h x (List.mem_cons_self) acc]
    simp only [calm_ok, Out.bind_ok]
    have hr := fun acc h2 => lcD_run step xs acc (fun y hy => h y (List.mem_cons_of_mem _ hy)) h2
    cases hf : f x with
    | none =>
      dsimp only
      rw [hr acc (by omega), List.filterMap_cons, hf]
    | some y =>
      dsimp only
      rw [get_new]
      dsimp only
      rw [if_pos (by rw [decide_eq_true_eq]; unfold sizeLine; omega)]
      have es : (S ++ [Cell.lst acc]).set S.length (.lst (acc ++ [y])) = S ++ [.lst (acc ++ [y])] := by simp
      rw [es, hr (acc ++ [y]) (by simp; omega), List.filterMap_cons, hf]
      simp
/-- a comprehension whose turns leave all as it is -/
theorem lc_run (hi : fi e S = .ok xs S) (h : ∀ x ∈ xs, ∀ acc, lcStep own fg ft fe e x (S ++ [.lst acc]) = .ok (f x) (S ++ [.lst acc])) (hl : xs.length ≤ 16777216) :
    lcF fi own fg ft fe e S = .ok (.d (.list (xs.filterMap f))) S := by
  unfold lcF
  rw [hi, Out.bind_ok, lcD_run (f := f) _ xs [] h (by simpa using hl), Out.bind_ok]
  unfold lcEnd
  rw [List.nil_append, get_new]
  dsimp only
  rw [take_new]
/-- .. no test: each item gives one -/
theorem lc_map {g : D → D} (hi : fi e S = .ok xs S) (h : ∀ x ∈ xs, ∀ acc, lcStep own fg ft fe e x (S ++ [.lst acc]) = .ok (some (g x)) (S ++ [.lst acc])) (hl : xs.length ≤ 16777216) :
    lcF fi own fg ft fe e S = .ok (.d (.list (xs.map g))) S := by
  have := lc_run (f := fun x => some (g x)) hi h hl
  rw [this, show xs.filterMap (fun x => some (g x)) = xs.map g from by rw [← List.filterMap_eq_map]; rfl]
end
/-- a comprehension, an invariant (the list so far at the end of the store) -/
theorem lc_inv {fi : Ev → Store → Out (List D)} {own : List Nat} {fg : R → Ev → Store → Out Ev} {ft : Ev → Store → Out Bool} {fe : Fe} {e : Ev} {S : Store} {xs : List D} {Q : R → Store → Prop} (I : Nat → List D → Store → Prop)
    (hi : fi e S = .ok xs S) (h0 : I 0 [] (S ++ [.lst []])) (hn : ∀ j acc S', I j acc S' → S'[S.length]? = some (.lst acc) ∧ acc.length ≤ j) (hl : xs.length ≤ 16777216)
    (hs : ∀ j x acc S', xs[j]? = some x → I j acc S' → Ok (lcStep own fg ft fe e x S') fun o S1 => match o with
      | none => I (j + 1) acc S1
      | some y => S1[S.length]? = some (.lst acc) ∧ I (j + 1) (acc ++ [y]) (S1.set S.length (.lst (acc ++ [y]))))
    (hq : ∀ acc S', I xs.length acc S' → Q (.d (.list acc)) (S'.take S.length)) : Ok (lcF fi own fg ft fe e S) Q := by
  have main : ∀ (ys : List D) (j : Nat) (acc : List D) (S' : Store), I j acc S' → (∀ k x, ys[k]? = some x → xs[j + k]? = some x) → j + ys.length = xs.length →
      Ok (lcD S.length (lcStep own fg ft fe e) ys S') fun _ S1 => ∃ acc, I xs.length acc S1 := by
    intro ys
    induction ys with
    | nil =>
      intro j acc S' hI _ hj
      unfold lcD
      rw [ok_ok]
      exact ⟨acc, by rw [← hj]; exact hI⟩
    | cons y ys ih =>
      intro j acc S' hI hx hj
      unfold lcD
      rw [ok_bind]
      have hj' : j + (ys.length + 1) = xs.length := hj
      obtain ⟨o, S1, e1, q⟩ := hs j y acc S' (by simpa using hx 0 y rfl) hI
      rw [e1, calm_ok, ok_ok, okK_app]
      have hx' : ∀ k x, ys[k]? = some x → xs[j + 1 + k]? = some x := fun k x h => by
        have := hx (k + 1) x (by simpa using h)
        rw [show j + 1 + k = j + (k + 1) by omega]; exact this
      cases o with
      | none => exact ih (j + 1) acc S1 q hx' (by omega)
      | some z =>
        obtain ⟨q1, q2⟩ := q
        dsimp only
        rw [q1]
        dsimp only
        have := (hn j acc S' hI).2
        rw [if_pos (by rw [decide_eq_true_eq]; unfold sizeLine; omega)]
        exact ih (j + 1) (acc ++ [z]) _ q2 hx' (by omega)
  unfold lcF
  rw [hi, Out.bind_ok, ok_bind]
  refine (main xs 0 [] _ h0 (fun k x h => by simpa using h) (by simp)).imp fun _ S1 ⟨acc, hI⟩ => ?_
  rw [okK_app]
  unfold lcEnd
  rw [(hn _ _ _ hI).1]
  dsimp only
  rw [ok_ok]
  exact hq acc S1 hI
/-- while: an invariant with its measure -/
theorem wh_inv {c : Ev → Store → Out Bool} {b : Ev → Store → Out (Fl × Ev)} {Q : Fl × Ev → Store → Prop} (I : Nat → Ev → Store → Prop) {m : Nat} {e : Ev} {S : Store} (h0 : I m e S)
    (hs : ∀ m e S, I m e S → Ok (c e S) fun k S1 => if k then Ok (b e S1) (turnQ (fun e2 S2 => ∃ m', m' < m ∧ I m' e2 S2) Q) else Q (.nx, e) S1) : Ok (whD c b e S) Q := by
  have fin : ∀ m e S, I m e S → ∃ n o, whN c b n e S = some o ∧ Ok o Q := by
    intro m
    induction m using Nat.strongRecOn with
    | _ m ih =>
      intro e S hI
      obtain ⟨k, S1, ec, q⟩ := hs m e S hI
      cases k with
      | false =>
        rw [if_neg Bool.false_ne_true] at q
        exact ⟨1, .ok (.nx, e) S1, by simp [whN, ec], by rw [ok_ok]; exact q⟩
      | true =>
        rw [if_pos rfl] at q
        obtain ⟨p, S2, eb, q⟩ := q
        obtain ⟨fl, e2⟩ := p
        cases fl with
        | nx =>
          obtain ⟨m', hm, hI'⟩ := q
          obtain ⟨n, o, h1, h2⟩ := ih m' hm e2 S2 hI'
          exact ⟨n + 1, o, by simp [whN, ec, eb, h1], h2⟩
        | ct =>
          obtain ⟨m', hm, hI'⟩ := q
          obtain ⟨n, o, h1, h2⟩ := ih m' hm e2 S2 hI'
          exact ⟨n + 1, o, by simp [whN, ec, eb, h1], h2⟩
        | bk => exact ⟨1, .ok (.nx, e2) S2, by simp [whN, ec, eb], by rw [ok_ok]; exact q⟩
        | rt r => exact ⟨1, .ok (.rt r, e2) S2, by simp [whN, ec, eb], by rw [ok_ok]; exact q⟩
  have mono : ∀ n e S o, whN c b n e S = some o → ∀ n', n ≤ n' → whN c b n' e S = some o := by
    intro n
    induction n with
    | zero => intro e S o h; cases h
    | succ n ih =>
      intro e S o h n' hn
      obtain ⟨k, rfl⟩ : ∃ k, n' = k + 1 := ⟨n' - 1, by omega⟩
      unfold whN at h ⊢
      cases hc : c e S with
      | bad => rw [hc] at h; exact h
      | exc x S1 => rw [hc] at h; exact h
      | ok k1 S1 =>
        rw [hc] at h
        cases k1 with
        | false => exact h
        | true =>
          dsimp only at h ⊢
          cases hb : b e S1 with
          | bad => rw [hb] at h; exact h
          | exc x S2 => rw [hb] at h; exact h
          | ok p S2 =>
            rw [hb] at h
            obtain ⟨fl, e2⟩ := p
            cases fl with
            | nx => exact ih e2 S2 o h k (by omega)
            | ct => exact ih e2 S2 o h k (by omega)
            | bk => exact h
            | rt r => exact h
  obtain ⟨n, o, h1, h2⟩ := fin m e S h0
  have hx : ∃ n, (whN c b n e S).isSome = true := ⟨n, by rw [h1]; rfl⟩
  unfold whD
  rw [dif_pos hx]
  have hc := hx.choose_spec
  cases hw : whN c b hx.choose e S with
  | none => rw [hw] at hc; cases hc
  | some o2 =>
    have e1 := mono _ _ _ _ h1 (max n hx.choose) (Nat.le_max_left _ _)
    have e2 := mono _ _ _ _ hw (max n hx.choose) (Nat.le_max_right _ _)
    rw [e1] at e2
    cases e2
    exact h2
end Sx
set_option Elab.async false
set_option linter.all false
set_option maxRecDepth 100000
set_option maxHeartbeats 1000000
/-! Sx, part U: plain: items by place. -/
namespace Sx
open PySem PySem.Spec
section
variable {t : Type} {a b c d e : t} {l : List t}
theorem atI_nat {xs : List t} {n : Nat} (h : n < xs.length) : L2.atI xs (n : Int) = some xs[n] := by
  unfold L2.atI L2.ixN
  simp [h]
@[simp] theorem atI_0 : L2.atI (a :: l) 0 = some a := atI_nat (n := 0) (by simp)
@[simp] theorem atI_1 : L2.atI (a :: b :: l) 1 = some b := atI_nat (n := 1) (by simp)
@[simp] theorem atI_2 : L2.atI (a :: b :: c :: l) 2 = some c := atI_nat (n := 2) (by simp)
@[simp] theorem atI_3 : L2.atI (a :: b :: c :: d :: l) 3 = some d := atI_nat (n := 3) (by simp)
@[simp] theorem atI_4 : L2.atI (a :: b :: c :: d :: e :: l) 4 = some e := atI_nat (n := 4) (by simp)
end
end Sx
set_option Elab.async false
set_option linter.all false
set_option maxRecDepth 100000
set_option maxHeartbeats 1000000
/-! Sx, part V: plain: fractions, numbers of bits, lists of data. -/
namespace Sx
open PySem PySem.Spec
/-! ### bits -/
def Bt (k : Nat) (i : Int) : Prop := i.natAbs < 2 ^ k
section
variable {a b k : Nat} {i j : Int}
theorem Bt.mono (h : Bt a i) (l : a ≤ b) : Bt b i := Nat.lt_of_lt_of_le h (Nat.pow_le_pow_right (by decide) l)
theorem Bt.mul (h : Bt a i) (g : Bt b j) : Bt (a + b) (i * j) := by
  unfold Bt at *
  rw [Int.natAbs_mul, Nat.pow_add]
  exact Nat.mul_lt_mul'' h g
theorem Bt.add (h : Bt a i) (g : Bt a j) : Bt (a + 1) (i + j) := by
  unfold Bt at *
  rw [Nat.pow_succ]
  omega
theorem Bt.sub (h : Bt a i) (g : Bt a j) : Bt (a + 1) (i - j) := by
  unfold Bt at *
  rw [Nat.pow_succ]
  omega
theorem Bt.neg (h : Bt a i) : Bt a (-i) := by
  unfold Bt at *
  omega
theorem Bt.log (h : Bt a i) : i.natAbs.log2 ≤ a := by
  have := log2_lt (h.mono (Nat.le_succ a)) (by omega)
  omega
theorem Bt.lt (h : -(2 ^ 60) < i ∧ i < 2 ^ 60) : Bt 60 i := by
  unfold Bt
  omega
theorem mul_bt (h : Bt a i) (g : Bt b j) (l : a + b < 1000000) : opB .mul (.int i) (.int j) = some (.int (i * j)) := by
  apply opB_mul
  unfold mulOk
  have := h.log
  have := g.log
  rw [decide_eq_true_eq]
  omega
theorem fdiv_bt (h0 : j ≠ 0) (h : Bt b j) (l : b < 9000) : opB .fdiv (.int i) (.int j) = some (.int (i.fdiv j)) := by
  apply opB_fdiv
  unfold divOk
  have := h.log
  simp only [Bool.and_eq_true, decide_eq_true_eq]
  exact ⟨h0, by omega⟩
end
/-! ### fractions -/
def fr (q : Rat) : D := .tuple [.int q.num, .int q.den]
def Sz (q : Rat) : Prop := Bt 1900 q.num ∧ Bt 1900 (q.den : Int)
theorem fr_inj {p q : Rat} : fr p = fr q ↔ p = q := by
  constructor
  · intro h
    simp only [fr, PyData.tuple.injEq, List.cons.injEq, PyData.int.injEq, and_true] at h
    exact Rat.ext h.1 (by omega)
  · rintro rfl; rfl
/-- a fraction's two numbers -/
def gg (a b : Int) : Int := if 0 < b then ((Nat.gcd a.natAbs b.natAbs : Nat) : Int) else -((Nat.gcd a.natAbs b.natAbs : Nat) : Int)
theorem gg_ne {a b : Int} (h : b ≠ 0) : gg a b ≠ 0 := by
  have : 0 < Nat.gcd a.natAbs b.natAbs := Nat.gcd_pos_of_pos_right _ (by omega)
  unfold gg
  split <;> omega
theorem gg_bt {a b : Int} {k : Nat} (h : b ≠ 0) (l : Bt k b) : Bt k (gg a b) := by
  have : Nat.gcd a.natAbs b.natAbs ≤ b.natAbs := Nat.gcd_le_right _ (by omega)
  unfold gg Bt at *
  split <;> omega
theorem fr_div {a b : Int} (h : b ≠ 0) : fr (Rat.divInt a b) = .tuple [.int (a.fdiv (gg a b)), .int (b.fdiv (gg a b))] := by
  have ga : ((Nat.gcd a.natAbs b.natAbs : Nat) : Int) ∣ a := Int.ofNat_dvd_left.mpr (Nat.gcd_dvd_left _ _)
  have gb : ((Nat.gcd a.natAbs b.natAbs : Nat) : Int) ∣ b := Int.ofNat_dvd_left.mpr (Nat.gcd_dvd_right _ _)
  have g0 : 0 < Nat.gcd a.natAbs b.natAbs := Nat.gcd_pos_of_pos_right _ (by omega)
  have e1 : b.gcd a = Nat.gcd a.natAbs b.natAbs := by rw [Int.gcd_comm]; rfl
  unfold fr
  rw [Rat.num_divInt, Rat.den_divInt, if_neg h, e1]
  unfold gg
  generalize Nat.gcd a.natAbs b.natAbs = g at *
  by_cases hb : 0 < b
  · rw [if_pos hb, Int.fdiv_eq_ediv_of_dvd ga, Int.fdiv_eq_ediv_of_dvd gb, Int.sign_eq_one_of_pos hb, Int.one_mul]
    congr 4
    obtain ⟨n, rfl⟩ : ∃ n : Nat, b = n := ⟨b.toNat, by omega⟩
    simp
  · have hb' : b < 0 := by omega
    rw [if_neg hb, Int.fdiv_eq_ediv_of_dvd (Int.neg_dvd.mpr ga), Int.fdiv_eq_ediv_of_dvd (Int.neg_dvd.mpr gb), Int.sign_eq_neg_one_of_neg hb']
    congr 3
    · rw [Int.ediv_neg, Int.neg_mul, Int.one_mul, Int.neg_ediv_of_dvd ga]
    · congr 2
      obtain ⟨n, rfl⟩ : ∃ n : Nat, b = -(n : Int) := ⟨b.natAbs, by omega⟩
      rw [Int.ediv_neg, Int.neg_ediv_of_dvd (by simpa using gb)]
      simp
theorem add_div (p q : Rat) : Rat.divInt (p.num * q.den + q.num * p.den) (p.den * q.den) = p + q := by
  rw [Rat.add_def', ← Rat.divInt_ofNat]
  simp
theorem sub_div (p q : Rat) : Rat.divInt (p.num * q.den - q.num * p.den) (p.den * q.den) = p - q := by
  rw [Rat.sub_def', ← Rat.divInt_ofNat]
  simp
theorem mul_div' (p q : Rat) : Rat.divInt (p.num * q.num) (p.den * q.den) = p * q := by
  rw [Rat.mul_def', ← Rat.divInt_ofNat]
  simp
theorem den_ne (q : Rat) : (q.den : Int) ≠ 0 := by
  have := q.den_nz
  omega
theorem den_pos' (q : Rat) : 0 < (q.den : Int) := by
  have := q.den_nz
  omega
theorem mulden_ne (p q : Rat) : (p.den * q.den : Int) ≠ 0 := Int.mul_ne_zero (den_ne p) (den_ne q)
/-! ### a common denominator -/
def Qb (j m : Nat) (q : Rat) : Prop := ∃ n : Int, q = mkRat n (5040 ^ j) ∧ n.natAbs ≤ 2 ^ m * 5040 ^ j
section
variable {j j' m m' : Nat} {p q : Rat}
theorem p5040 (j : Nat) : (5040 ^ j : Nat) ≠ 0 := Nat.pos_iff_ne_zero.mp (Nat.pow_pos (by decide))
theorem Qb.mono (h : Qb j m q) (hj : j ≤ j') (hm : m ≤ m') : Qb j' m' q := by
  obtain ⟨n, rfl, l⟩ := h
  obtain ⟨d, rfl⟩ := Nat.exists_eq_add_of_le hj
  refine ⟨n * (5040 ^ d : Nat), ?_, ?_⟩
  · rw [Nat.pow_add, Rat.mkRat_mul_right (p5040 d)]
  · rw [Int.natAbs_mul, Int.natAbs_natCast, Nat.pow_add, ← Nat.mul_assoc]
    refine Nat.mul_le_mul_right _ (Nat.le_trans l (Nat.mul_le_mul_right _ (Nat.pow_le_pow_right (by decide) hm)))
theorem Qb.add' (h : Qb j m p) (g : Qb j m q) : Qb j (m + 1) (p + q) := by
  obtain ⟨n, rfl, l⟩ := h
  obtain ⟨n', rfl, l'⟩ := g
  refine ⟨n + n', ?_, ?_⟩
  · rw [Rat.mkRat_add_mkRat _ _ (p5040 j) (p5040 j), ← Int.add_mul, Rat.mkRat_mul_right (p5040 j)]
  · rw [Nat.pow_succ]
    have : (n + n').natAbs ≤ n.natAbs + n'.natAbs := Int.natAbs_add_le _ _
    rw [show 2 ^ m * 2 * 5040 ^ j = 2 ^ m * 5040 ^ j + 2 ^ m * 5040 ^ j by rw [Nat.mul_right_comm, Nat.mul_two]]
    omega
theorem Qb.add (h : Qb j m p) (g : Qb j' m' q) : Qb (max j j') (max m m' + 1) (p + q) := (h.mono (by omega) (by omega)).add' (g.mono (by omega) (by omega))
theorem Qb.neg (h : Qb j m q) : Qb j m (-q) := by
  obtain ⟨n, rfl, l⟩ := h
  exact ⟨-n, by rw [Rat.neg_mkRat], by rw [Int.natAbs_neg]; exact l⟩
theorem Qb.mul (h : Qb j m p) (g : Qb j' m' q) : Qb (j + j') (m + m') (p * q) := by
  obtain ⟨n, rfl, l⟩ := h
  obtain ⟨n', rfl, l'⟩ := g
  refine ⟨n * n', ?_, ?_⟩
  · rw [Rat.mkRat_mul_mkRat, Nat.pow_add]
  · rw [Int.natAbs_mul, Nat.pow_add, Nat.pow_add]
    calc n.natAbs * n'.natAbs ≤ (2 ^ m * 5040 ^ j) * (2 ^ m' * 5040 ^ j') := Nat.mul_le_mul l l'
      _ = _ := by rw [Nat.mul_mul_mul_comm]
theorem Qb.sz (h : Qb j m q) (l : m + 13 * j < 1900) : Sz q := by
  obtain ⟨n, rfl, hn⟩ := h
  have h1 : 5040 ^ j ≤ 2 ^ (13 * j) := by
    rw [Nat.pow_mul]
    exact Nat.pow_le_pow_left (by decide) j
  have h0 := p5040 j
  constructor
  · refine Bt.mono (a := m + 13 * j + 1) ?_ (by omega)
    unfold Bt
    rw [Rat.num_mkRat, if_neg h0]
    have h2 : (n / (Nat.gcd (5040 ^ j) n.natAbs : Nat)).natAbs ≤ n.natAbs := Int.natAbs_ediv_le_natAbs _ _
    have h3 : 2 ^ m * 5040 ^ j ≤ 2 ^ m * 2 ^ (13 * j) := Nat.mul_le_mul_left _ h1
    rw [← Nat.pow_add] at h3
    have h4 : 2 ^ (m + 13 * j) < 2 ^ (m + 13 * j + 1) := Nat.pow_lt_pow_right (by decide) (by omega)
    omega
  · refine Bt.mono (a := 13 * j + 1) ?_ (by omega)
    unfold Bt
    rw [Rat.den_mkRat, if_neg h0, Int.natAbs_natCast]
    have h2 : 5040 ^ j / Nat.gcd (5040 ^ j) n.natAbs ≤ 5040 ^ j := Nat.div_le_self _ _
    have h4 : 2 ^ (13 * j) < 2 ^ (13 * j + 1) := Nat.pow_lt_pow_right (by decide) (by omega)
    omega
theorem qb_of {n : Int} {d : Nat} (hd : d ∣ 5040) (h : n.natAbs ≤ 2 ^ m * d) : Qb 1 m (mkRat n d) := by
  obtain ⟨c, hc⟩ := hd
  have c0 : c ≠ 0 := by rintro rfl; simp at hc
  refine ⟨n * c, ?_, ?_⟩
  · rw [Nat.pow_one, hc, Rat.mkRat_mul_right c0]
  · rw [Nat.pow_one, hc, Int.natAbs_mul, Int.natAbs_natCast, ← Nat.mul_assoc]
    exact Nat.mul_le_mul_right _ h
end
/-! ### equality of rows -/
theorem eqv_fr (p q : Rat) : PyData.eqv (fr p) (fr q) = decide (p = q) := by
  unfold fr
  simp only [PyData.eqv, PyData.eqvAll, Bool.and_true]
  rw [Bool.eq_iff_iff]
  simp only [Bool.and_eq_true, beq_iff_eq, decide_eq_true_eq]
  constructor
  · rintro ⟨h1, h2⟩; exact Rat.ext h1 (by omega)
  · rintro rfl; exact ⟨rfl, rfl⟩
theorem eqv_frs : ∀ ps qs : List Rat, PyData.eqvAll (ps.map fr) (qs.map fr) = decide (ps = qs)
  | [], [] => rfl
  | [], _ :: _ => rfl
  | _ :: _, [] => rfl
  | p :: ps, q :: qs => by
    simp only [List.map_cons, PyData.eqvAll, eqv_fr, eqv_frs ps qs, List.cons.injEq, Bool.decide_and]
theorem lay_fr (q : Rat) : (fr q).canLay0 = true := rfl
theorem lay_frs : ∀ qs : List Rat, PyData.canLayAll0 (qs.map fr) = true
  | [] => rfl
  | q :: qs => by simp only [List.map_cons, PyData.canLayAll0, lay_fr, lay_frs qs]; rfl
theorem dep_fr (q : Rat) : (fr q).depth = 1 := rfl
theorem dep_frs : ∀ qs : List Rat, PyData.depthAll (qs.map fr) ≤ 1
  | [] => by simp [PyData.depthAll]
  | q :: qs => by have := dep_frs qs; simp only [List.map_cons, PyData.depthAll, dep_fr]; omega
def rowD (qs : List Rat) : D := .tuple (qs.map fr)
theorem shaped_row (qs : List Rat) : SeqAt.shaped (rowD qs) = true := by
  have := dep_frs qs
  simp only [SeqAt.shaped, rowD, PyData.canLay0, lay_frs, PyData.depth, Bool.true_and, decide_eq_true_eq]
  omega
theorem shaped_fr (q : Rat) : SeqAt.shaped (fr q) = true := rfl
theorem eqD_fr (p q : Rat) : eqD (fr p) (fr q) = some (decide (p = q)) := by
  rw [eqD_sh (shaped_fr p) (shaped_fr q) rfl, eqv_fr]
theorem eqD_row (ps qs : List Rat) : eqD (rowD ps) (rowD qs) = some (decide (ps = qs)) := by
  rw [eqD_sh (shaped_row ps) (shaped_row qs) rfl]
  unfold rowD
  rw [PyData.eqv, eqv_frs]
end Sx
namespace Sx
open PySem PySem.Spec
/-! ### judges of any data -/
@[simp] theorem bAll_map {t : Type} (l : List t) (f : t → Bool) : bAll [.list (l.map fun x => .bool (f x))] = some (.bool (l.all f)) := by
  rw [bAll_l (bools_map l f), List.all_map]
  rfl
@[simp] theorem bAny_map {t : Type} (l : List t) (f : t → Bool) : bAny [.list (l.map fun x => .bool (f x))] = some (.bool (l.any f)) := by
  rw [bAny_l (bools_map l f), List.any_map]
  rfl
def wholeB : D → Bool
  | .int _ => true
  | _ => false
def betweenB : D → Int → Int → Bool
  | .int n, a, b => decide (a ≤ n) && decide (n ≤ b)
  | _, _, _ => false
def wholesB (many : Int) : D → Bool
  | .tuple ds => decide ((ds.length : Int) = many) && ds.all wholeB
  | _ => false
def ratioB : D → Bool
  | .tuple [.int a, .int b] => decide (0 < b) && decide (Nat.gcd a.natAbs b.natAbs = 1)
  | _ => false
def rowB (many : Int) : D → Bool
  | .tuple ds => decide ((ds.length : Int) = many) && ds.all ratioB
  | _ => false
def wishB (size : Int) : D → Bool
  | .tuple [r, b] => rowB size r && ratioB b
  | _ => false
def wishesB (most n : Int) : D → Bool
  | .tuple ws => decide ((ws.length : Int) ≤ most) && ws.all (wishB n)
  | _ => false
def sizeB : D → Int → Bool
  | .int n, m => decide (1 ≤ n) && decide (n ≤ m)
  | _, _ => false
def numD : D → Int
  | .int n => n
  | _ => 0
def lotB (most : Int) : D → Bool
  | .tuple [x, y] => betweenB x 1 12 && wishesB most (numD x) y
  | _ => false
@[simp] theorem len3_2 (n : Nat) : ((n : Int) + 1 + 1 + 1 == 2) = false := by rw [beq_eq_false_iff_ne]; omega
@[simp] theorem len5_4 (n : Nat) : ((n : Int) + 1 + 1 + 1 + 1 + 1 == 4) = false := by rw [beq_eq_false_iff_ne]; omega
@[simp] theorem len6_5 (n : Nat) : ((n : Int) + 1 + 1 + 1 + 1 + 1 + 1 == 5) = false := by rw [beq_eq_false_iff_ne]; omega
theorem whole_int {d : D} (h : wholeB d = true) : ∃ n, d = .int n := by
  cases d <;> simp [wholeB] at h
  exact ⟨_, rfl⟩
theorem between_int {d : D} {a b : Int} (h : betweenB d a b = true) : ∃ n, d = .int n ∧ a ≤ n ∧ n ≤ b := by
  cases d <;> simp [betweenB] at h
  exact ⟨_, rfl, h⟩
theorem wholes_2 {d : D} (h : wholesB 2 d = true) : ∃ a b, d = .tuple [.int a, .int b] := by
  cases d <;> simp [wholesB] at h
  rename_i ds
  match ds, h with
  | [x, y], h =>
    simp at h
    obtain ⟨a, rfl⟩ := whole_int h.1
    obtain ⟨b, rfl⟩ := whole_int h.2
    exact ⟨a, b, rfl⟩
theorem ratio_wholes {d : D} (h : ¬ wholesB 2 d = true) : ratioB d = false := by
  unfold ratioB
  split
  · exact absurd rfl h
  · rfl
/- every number within is small -/
mutual
def bd (n : Nat) : D → Prop
  | .int i => i.natAbs < 2 ^ n
  | .tuple ds => bdA n ds
  | .list ds => bdA n ds
  | _ => True
def bdA (n : Nat) : List D → Prop
  | [] => True
  | d :: ds => bd n d ∧ bdA n ds
end
theorem bdA_iff {n : Nat} : ∀ {ds : List D}, bdA n ds ↔ ∀ d ∈ ds, bd n d
  | [] => by simp [bdA]
  | d :: ds => by simp [bdA, bdA_iff (ds := ds)]
theorem bdT {n : Nat} {ds : List D} : bd n (.tuple ds) ↔ ∀ d ∈ ds, bd n d := by rw [bd, bdA_iff]
theorem bdL {n : Nat} {ds : List D} : bd n (.list ds) ↔ ∀ d ∈ ds, bd n d := by rw [bd, bdA_iff]
theorem bdI {n : Nat} {i : Int} : bd n (.int i) ↔ Bt n i := by rw [bd]; rfl
mutual
theorem bd_mono {a b : Nat} (l : a ≤ b) : ∀ (d : D), bd a d → bd b d
  | .none, _ => by simp [bd]
  | .bool _, _ => by simp [bd]
  | .str _, _ => by simp [bd]
  | .dict _, _ => by simp [bd]
  | .int i, h => bdI.mpr ((bdI.mp h).mono l)
  | .tuple ds, h => by rw [bd] at h ⊢; exact bdA_mono l ds h
  | .list ds, h => by rw [bd] at h ⊢; exact bdA_mono l ds h
theorem bdA_mono {a b : Nat} (l : a ≤ b) : ∀ (ds : List D), bdA a ds → bdA b ds
  | [], _ => by simp [bdA]
  | d :: ds, h => by rw [bdA] at h ⊢; exact ⟨bd_mono l d h.1, bdA_mono l ds h.2⟩
end
theorem frac_div {a b : Int} (hb : 0 < b) : fr (Rat.divInt a b) = .tuple [.int a, .int b] ↔ Nat.gcd a.natAbs b.natAbs = 1 := by
  rw [fr_div (by omega)]
  have g0 : 0 < Nat.gcd a.natAbs b.natAbs := Nat.gcd_pos_of_pos_right _ (by omega)
  unfold gg
  rw [if_pos hb]
  constructor
  · intro h
    simp only [PyData.tuple.injEq, List.cons.injEq, PyData.int.injEq, and_true] at h
    have gb : ((Nat.gcd a.natAbs b.natAbs : Nat) : Int) ∣ b := Int.ofNat_dvd_left.mpr (Nat.gcd_dvd_right _ _)
    have h2 := h.2
    rw [Int.fdiv_eq_ediv_of_dvd gb] at h2
    obtain ⟨c, hc⟩ := gb
    generalize Nat.gcd a.natAbs b.natAbs = g at *
    have g0' : (0 : Int) < g := by omega
    rw [hc, Int.mul_ediv_cancel_left _ (by omega)] at h2
    have c0 : 0 < c := by
      rcases Int.lt_trichotomy c 0 with h | h | h
      · have := Int.mul_neg_of_pos_of_neg g0' h; omega
      · rw [h] at hc; omega
      · exact h
    have : (g : Int) = 1 := by
      have e : 1 * c = g * c := by omega
      have := Int.eq_of_mul_eq_mul_right (by omega) e
      omega
    omega
  · intro h
    rw [h]
    simp
theorem eqD_div {a b : Int} (hb : 0 < b) : eqD (fr (Rat.divInt a b)) (.tuple [.int a, .int b]) = some (decide (Nat.gcd a.natAbs b.natAbs = 1)) := by
  rw [eqD_sh rfl rfl rfl]
  congr 1
  rw [Bool.eq_iff_iff, decide_eq_true_eq, ← frac_div hb]
  unfold fr
  simp only [PyData.eqv, PyData.eqvAll, Bool.and_true, Bool.and_eq_true, beq_iff_eq, PyData.tuple.injEq, List.cons.injEq, PyData.int.injEq, and_true]
end Sx
namespace Sx
open PySem PySem.Spec
/-- a for that hands back False at the first item that is wrong -/
theorem for_all {f : D → Ev → Store → Out (Fl × Ev)} {S : Store} {P : D → Bool} (E : Ev → Prop) : ∀ {xs : List D} {e : Ev}, E e →
    (∀ x e, x ∈ xs → E e → (P x = true → ∃ e2, f x e S = .ok (.nx, e2) S ∧ E e2) ∧ (P x = false → ∃ e2, f x e S = .ok (.rt (.d (.bool false)), e2) S)) →
    (xs.all P = true → ∃ e2, forD f xs e S = .ok (.nx, e2) S ∧ E e2) ∧ (xs.all P = false → ∃ e2, forD f xs e S = .ok (.rt (.d (.bool false)), e2) S)
  | [], e, h0, _ => ⟨fun _ => ⟨e, rfl, h0⟩, fun h => by simp at h⟩
  | x :: xs, e, h0, hs => by
    obtain ⟨h1, h2⟩ := hs x e List.mem_cons_self h0
    rw [List.all_cons]
    cases hx : P x with
    | false =>
      obtain ⟨e2, q⟩ := h2 hx
      refine ⟨fun h => by simp at h, fun _ => ⟨e2, ?_⟩⟩
      rw [forD_cons, q]
      simp
    | true =>
      obtain ⟨e2, q, h3⟩ := h1 hx
      rw [Bool.true_and, forD_cons, q]
      simp only [Out.bind_ok, forK_nx]
      exact for_all E h3 fun y e hy he => hs y e (List.mem_cons_of_mem _ hy) he
theorem abs_nat (a : Int) : (if a < 0 then -a else a) = (a.natAbs : Int) := by split <;> omega
/-- but for the cells i and n all is as it was -/
def Two (i n : Nat) (S S' : Store) : Prop := S'.length = S.length ∧ ∀ t, t ≠ i → t ≠ n → S'[t]? = S[t]?
theorem Two.refl {i n : Nat} {S : Store} : Two i n S S := ⟨rfl, fun _ _ _ => rfl⟩
theorem Two.trans {i n : Nat} {S S' S'' : Store} (a : Two i n S S') (b : Two i n S' S'') : Two i n S S'' := ⟨b.1.trans a.1, fun t h1 h2 => (b.2 t h1 h2).trans (a.2 t h1 h2)⟩
theorem Same.two {i n : Nat} {S S' : Store} (h : Same i S S') : Two i n S S' := ⟨h.1, fun t h1 _ => h.2 t h1⟩
theorem Two.set {i n : Nat} {S S' : Store} (h : Two i n S S') (c : Cell) : Two i n S (S'.set n c) := ⟨by rw [List.length_set]; exact h.1, fun t h1 h2 => by rw [get_set_ne (Ne.symm h2)]; exact h.2 t h1 h2⟩
theorem Two.ext {i : Nat} {S S' : Store} {c : Cell} (h : Two i S.length (S ++ [c]) S') : Ext i S S' := ⟨by rw [h.1]; simp, fun t h1 h2 => by rw [h.2 t h1 (by omega), get_app h2]⟩
/-- a for that puts one item a turn behind a list at n, by an urn at i -/
theorem collect {f : D → Ev → Store → Out (Fl × Ev)} {Q : Fl × Ev → Store → Prop} {S0 : Store} {i n : Nat} {b c : Int} (E : Ev → Prop) (P : Nat → D → Prop) {xs : List D} {e0 : Ev}
    (hn : S0[n]? = some (.lst [])) (he : E e0) (hu : Urn S0 i b) (hb : c * xs.length ≤ b) (hc : 0 ≤ c)
    (step : ∀ j x e S' acc b', xs[j]? = some x → E e → Two i n S0 S' → S'[n]? = some (.lst acc) → acc.length = j → (∀ t d, acc[t]? = some d → P t d) → Urn S' i b' → c ≤ b' →
      Ok (f x e S') (turnQ (fun e2 S2 => E e2 ∧ Two i n S' S2 ∧ Urn S2 i (b' - c) ∧ ∃ d, P j d ∧ S2[n]? = some (.lst (acc ++ [d]))) Q))
    (fin : ∀ e S' acc, E e → Two i n S0 S' → S'[n]? = some (.lst acc) → acc.length = xs.length → (∀ t d, acc[t]? = some d → P t d) → Urn S' i (b - c * xs.length) → Q (.nx, e) S') : Ok (forD f xs e0 S0) Q := by
  refine for_inv (fun j e S' => j ≤ xs.length ∧ E e ∧ Two i n S0 S' ∧ Urn S' i (b - c * j) ∧ ∃ acc, S'[n]? = some (.lst acc) ∧ acc.length = j ∧ ∀ t d, acc[t]? = some d → P t d) ⟨Nat.zero_le _, he, .refl, by simpa using hu, [], hn, rfl, fun t d h => by simp at h⟩ (fun j x e S' hx hI => ?_) (fun e S' hI => ?_)
  · obtain ⟨hj, hE, h2, hu', acc, ha, hl, hP⟩ := hI
    have hj' := lt_of_get hx
    have e1 : c * ((j : Int) + 1) ≤ c * xs.length := Int.mul_le_mul_of_nonneg_left (by omega) hc
    have e2 : c * ((j : Int) + 1) = c * j + c := by rw [Int.mul_add, Int.mul_one]
    refine (step j x e S' acc (b - c * j) hx hE h2 ha hl hP hu' (by omega)).imp ?_
    rintro ⟨fl, e3⟩ S2 q
    cases fl with
    | nx =>
      obtain ⟨q1, q2, q3, d, q4, q5⟩ := q
      refine ⟨by omega, q1, h2.trans q2, ?_, acc ++ [d], q5, by simp [hl], fun t y hy => ?_⟩
      · have : b - c * j - c = b - c * ((j + 1 : Nat) : Int) := by rw [Int.natCast_add, Int.natCast_one, e2]; omega
        rw [← this]; exact q3
      · by_cases ht : t < acc.length
        · rw [List.getElem?_append_left ht] at hy; exact hP t y hy
        · rw [List.getElem?_append_right (by omega)] at hy
          have e0 : t - acc.length = 0 := by have := lt_of_get hy; simp at this; omega
          rw [e0] at hy
          simp at hy
          subst hy
          rw [show t = j by omega]
          exact q4
    | ct =>
      obtain ⟨q1, q2, q3, d, q4, q5⟩ := q
      refine ⟨by omega, q1, h2.trans q2, ?_, acc ++ [d], q5, by simp [hl], fun t y hy => ?_⟩
      · have : b - c * j - c = b - c * ((j + 1 : Nat) : Int) := by rw [Int.natCast_add, Int.natCast_one, e2]; omega
        rw [← this]; exact q3
      · by_cases ht : t < acc.length
        · rw [List.getElem?_append_left ht] at hy; exact hP t y hy
        · rw [List.getElem?_append_right (by omega)] at hy
          have e0 : t - acc.length = 0 := by have := lt_of_get hy; simp at this; omega
          rw [e0] at hy
          simp at hy
          subst hy
          rw [show t = j by omega]
          exact q4
    | bk => exact q
    | rt r => exact q
  · obtain ⟨hj, hE, h2, hu', acc, ha, hl, hP⟩ := hI
    exact fin e S' acc hE h2 ha hl hP hu'
end Sx
set_option Elab.async false
set_option linter.all false
set_option maxRecDepth 100000
set_option maxHeartbeats 1000000
/-! Sx, part W: plain: more loops. -/
namespace Sx
open PySem PySem.Spec
def allQ (E : Ev → Prop) (b : Bool) (S : Store) (p : Fl × Ev) (S2 : Store) : Prop := S2 = S ∧ match p.1 with
  | .nx => b = true ∧ E p.2
  | .rt r => b = false ∧ r = .d (.bool false)
  | _ => False
@[simp] theorem allQ_nx (E : Ev → Prop) (b : Bool) (S S2 : Store) (e : Ev) : allQ E b S (.nx, e) S2 = (S2 = S ∧ b = true ∧ E e) := rfl
@[simp] theorem allQ_rt (E : Ev → Prop) (b : Bool) (S S2 : Store) (r : R) (e : Ev) : allQ E b S (.rt r, e) S2 = (S2 = S ∧ b = false ∧ r = .d (.bool false)) := rfl
theorem for_allQ {f : D → Ev → Store → Out (Fl × Ev)} {Q : Fl × Ev → Store → Prop} {xs : List D} {e : Ev} {S : Store} (E : Ev → Prop) (P : D → Bool) (h0 : E e) (hs : ∀ x e, x ∈ xs → E e → Ok (f x e S) (allQ E (P x) S))
    (h1 : xs.all P = true → ∀ e2, E e2 → Q (.nx, e2) S) (h2 : xs.all P = false → ∀ e2, Q (.rt (.d (.bool false)), e2) S) : Ok (forD f xs e S) Q := by
  have key := for_all (f := f) (S := S) (P := P) E (xs := xs) h0 (fun x e hx he => by
    obtain ⟨⟨fl, e2⟩, S2, q, hq⟩ := hs x e hx he
    cases fl with
    | nx => obtain ⟨rfl, a, b⟩ := hq; exact ⟨fun _ => ⟨e2, q, b⟩, fun z => by rw [a] at z; cases z⟩
    | rt r => obtain ⟨rfl, a, rfl⟩ := hq; exact ⟨fun z => (by rw [a] at z; cases z), fun _ => ⟨e2, q⟩⟩
    | bk => exact hq.2.elim
    | ct => exact hq.2.elim)
  cases h : xs.all P with
  | true =>
    obtain ⟨e2, q, he⟩ := key.1 h
    exact ⟨_, _, q, h1 h e2 he⟩
  | false =>
    obtain ⟨e2, q⟩ := key.2 h
    exact ⟨_, _, q, h2 h e2⟩
theorem row_len {n : Int} {d : D} (h : rowB n d = true) : ∃ ds, d = .tuple ds ∧ (ds.length : Int) = n ∧ ∀ x ∈ ds, ratioB x = true := by
  cases d <;> simp [rowB] at h
  exact ⟨_, rfl, h⟩
/-- a drawn datum -/
def Dn (i : Nat) (S : Store) (b : Int) (P : D → Prop) (r : R) (S' : Store) : Prop := ∃ d, r = .d d ∧ P d ∧ Urn S' i b ∧ Same i S S'
theorem rowD_ratio {qs : List Rat} : rowB qs.length (rowD qs) = true := by
  simp [rowB, rowD]
  intro q _
  simp only [fr, ratioB, Bool.and_eq_true, decide_eq_true_eq]
  exact ⟨den_pos' q, q.reduced⟩
theorem fr_ratio (q : Rat) : ratioB (fr q) = true := by
  simp only [fr, ratioB, Bool.and_eq_true, decide_eq_true_eq]
  exact ⟨den_pos' q, q.reduced⟩
theorem fr_bd {n : Nat} {q : Rat} (h : Sz q) (l : 1900 ≤ n) : bd n (fr q) := by
  unfold fr
  rw [bdT]
  intro d hd
  simp only [List.mem_cons, List.not_mem_nil, or_false] at hd
  rcases hd with rfl | rfl
  · exact bdI.mpr (h.1.mono l)
  · exact bdI.mpr (h.2.mono l)
theorem get_mem {xs : List D} {P : Nat → D → Prop} {Q : D → Prop} (h : ∀ t d, xs[t]? = some d → P t d) (k : ∀ t d, P t d → Q d) : ∀ d ∈ xs, Q d := fun d hd => by
  obtain ⟨t, ht⟩ := List.getElem?_of_mem hd
  exact k t d (h t d ht)
/-- data one by one as fractions -/
theorem frs_of : ∀ {xs : List D} {P : Rat → Prop}, (∀ d ∈ xs, ∃ q, d = fr q ∧ P q) → ∃ qs : List Rat, xs = qs.map fr ∧ ∀ q ∈ qs, P q
  | [], _, _ => ⟨[], rfl, fun q h => by cases h⟩
  | x :: xs, P, h => by
    obtain ⟨q, rfl, hq⟩ := h x List.mem_cons_self
    obtain ⟨qs, rfl, hqs⟩ := frs_of (xs := xs) (P := P) fun d hd => h d (List.mem_cons_of_mem _ hd)
    refine ⟨q :: qs, rfl, fun p hp => ?_⟩
    rcases List.mem_cons.mp hp with rfl | hp
    · exact hq
    · exact hqs p hp
end Sx
namespace Sx
open PySem PySem.Spec
/-! ### wishes -/
structure Wish where
  r : List Rat
  b : Rat
def wishD (w : Wish) : D := .tuple [rowD w.r, fr w.b]
def WishOk (size : Int) (w : Wish) : Prop := (w.r.length : Int) = size ∧ (∀ q ∈ w.r, Qb 1 3 q) ∧ Qb 1 3 w.b
theorem wishes_of : ∀ {xs : List D} {P : Wish → Prop}, (∀ d ∈ xs, ∃ w, d = wishD w ∧ P w) → ∃ ws : List Wish, xs = ws.map wishD ∧ ∀ w ∈ ws, P w
  | [], _, _ => ⟨[], rfl, fun q h => by cases h⟩
  | x :: xs, P, h => by
    obtain ⟨q, rfl, hq⟩ := h x List.mem_cons_self
    obtain ⟨qs, rfl, hqs⟩ := wishes_of (xs := xs) (P := P) fun d hd => h d (List.mem_cons_of_mem _ hd)
    refine ⟨q :: qs, rfl, fun p hp => ?_⟩
    rcases List.mem_cons.mp hp with rfl | hp
    · exact hq
    · exact hqs p hp
theorem lay_wish (w : Wish) : (wishD w).canLay0 = true := by
  simp [wishD, rowD, PyData.canLay0, PyData.canLayAll0, lay_frs, lay_fr]
theorem dep_wish (w : Wish) : (wishD w).depth ≤ 3 := by
  have := dep_frs w.r
  simp only [wishD, rowD, PyData.depth, PyData.depthAll, dep_fr]
  omega
theorem lay_wishes : ∀ ws : List Wish, PyData.canLayAll0 (ws.map wishD) = true
  | [] => rfl
  | w :: ws => by simp only [List.map_cons, PyData.canLayAll0, lay_wish, lay_wishes ws]; rfl
theorem dep_wishes : ∀ ws : List Wish, PyData.depthAll (ws.map wishD) ≤ 3
  | [] => by simp [PyData.depthAll]
  | w :: ws => by have := dep_wishes ws; have := dep_wish w; simp only [List.map_cons, PyData.depthAll]; omega
theorem shaped_wishes (ws : List Wish) : SeqAt.shaped (.list (ws.map wishD)) = true := by
  have := dep_wishes ws
  simp only [SeqAt.shaped, PyData.canLay0, lay_wishes, PyData.depth, Bool.true_and, decide_eq_true_eq]
  exact decide_eq_true (by omega)
theorem eqD_nilL {xs : List D} (h : SeqAt.shaped (.list xs) = true) : eqD (.list xs) (.list []) = some xs.isEmpty := by
  rw [eqD_sh h rfl rfl]
  cases xs <;> rfl
theorem eqD_nilT {xs : List D} (h : SeqAt.shaped (.tuple xs) = true) : eqD (.tuple xs) (.tuple []) = some xs.isEmpty := by
  rw [eqD_sh h rfl rfl]
  cases xs <;> rfl
theorem fr_int (z : Int) : fr (z : Rat) = .tuple [.int z, .int 1] := rfl
theorem neg_fr (q : Rat) : PyData.tuple [.int (0 - q.num), .int q.den] = fr (-q) := by simp [fr]
theorem qb_int {z : Int} {m : Nat} (h : z.natAbs ≤ 2 ^ m) : Qb 1 m (z : Rat) := by
  have : (z : Rat) = mkRat z 1 := by
    exact (Rat.mkRat_self (z : Rat)).symm
  rw [this]
  exact qb_of (by decide) (by simpa using h)
/- numbers within tuples -/
mutual
def itD (m : Nat) : D → Prop
  | .int i => i.natAbs < 2 ^ m
  | .tuple ds => ds.length ≤ 1000 ∧ itA m ds
  | .str x => PyData.strOk x = true
  | _ => False
def itA (m : Nat) : List D → Prop
  | [] => True
  | d :: ds => itD m d ∧ itA m ds
end
theorem itA_iff {m : Nat} : ∀ {ds : List D}, itA m ds ↔ ∀ d ∈ ds, itD m d
  | [] => by simp [itA]
  | d :: ds => by simp [itA, itA_iff (ds := ds)]
theorem itT {m : Nat} {ds : List D} : itD m (.tuple ds) ↔ ds.length ≤ 1000 ∧ ∀ d ∈ ds, itD m d := by rw [itD, itA_iff]
mutual
theorem it_bd {m : Nat} : ∀ (d : D), itD m d → bd m d
  | .none, _ => by simp [bd]
  | .bool _, _ => by simp [bd]
  | .str _, _ => by simp [bd]
  | .dict _, _ => by simp [bd]
  | .int i, h => by rw [itD] at h; rw [bd]; exact h
  | .tuple ds, h => by rw [itD] at h; rw [bd]; exact itA_bd ds h.2
  | .list ds, h => by simp [itD] at h
theorem itA_bd {m : Nat} : ∀ (ds : List D), itA m ds → bdA m ds
  | [], _ => by simp [bdA]
  | d :: ds, h => by rw [itA] at h; rw [bdA]; exact ⟨it_bd d h.1, itA_bd ds h.2⟩
end
mutual
theorem it_lay {m : Nat} : ∀ (d : D), itD m d → d.canLay0 = true
  | .none, _ => rfl
  | .bool _, _ => rfl
  | .str x, h => by rw [itD] at h; exact h
  | .dict _, h => by simp [itD] at h
  | .int i, h => rfl
  | .tuple ds, h => by rw [itD] at h; rw [PyData.canLay0]; exact itA_lay ds h.2
  | .list ds, h => by simp [itD] at h
theorem itA_lay {m : Nat} : ∀ (ds : List D), itA m ds → PyData.canLayAll0 ds = true
  | [], _ => rfl
  | d :: ds, h => by rw [itA] at h; rw [PyData.canLayAll0, it_lay d h.1, itA_lay ds h.2]; rfl
end
theorem it_shaped {m n : Nat} {d : D} (h : itD m d) (hd : d.depth ≤ n) (hn : n ≤ 64) : SeqAt.shaped d = true := by
  unfold SeqAt.shaped
  rw [it_lay d h, Bool.true_and, decide_eq_true_eq]
  omega
theorem dep_mem {ds : List D} {d : D} (h : d ∈ ds) : d.depth + 1 ≤ (PyData.tuple ds).depth := by
  have : ∀ ds : List D, d ∈ ds → d.depth ≤ PyData.depthAll ds := by
    intro ds
    induction ds with
    | nil => intro h; cases h
    | cons x xs ih =>
      intro h
      simp only [PyData.depthAll]
      rcases List.mem_cons.mp h with rfl | h
      · omega
      · have := ih h; omega
  have := this ds h
  simp only [PyData.depth]
  omega
theorem cutD_len_le (xs : List D) (lo hi : Option Int) : (cutD xs lo hi).length ≤ xs.length := by
  unfold cutD
  rw [List.length_take, List.length_drop]
  omega
theorem it_fr {q : Rat} {m : Nat} (h : Sz q) (l : 1900 ≤ m) : itD m (fr q) := by
  unfold fr
  rw [itT]
  refine ⟨by simp, fun d hd => ?_⟩
  simp only [List.mem_cons, List.not_mem_nil, or_false] at hd
  rcases hd with rfl | rfl
  · rw [itD]; exact h.1.mono l
  · rw [itD]; exact h.2.mono l
theorem it_row {qs : List Rat} {m : Nat} (h : ∀ q ∈ qs, Sz q) (l : 1900 ≤ m) (hl : qs.length ≤ 1000) : itD m (rowD qs) := by
  unfold rowD
  rw [itT]
  refine ⟨by simpa using hl, fun d hd => ?_⟩
  obtain ⟨q, hq, rfl⟩ := List.mem_map.mp hd
  exact it_fr (h q hq) l
theorem it_wish {w : Wish} {m : Nat} {n : Int} (h : WishOk n w) (l : 1900 ≤ m) (hn : n ≤ 1000) : itD m (wishD w) := by
  unfold wishD
  rw [itT]
  refine ⟨by simp, fun d hd => ?_⟩
  simp only [List.mem_cons, List.not_mem_nil, or_false] at hd
  rcases hd with rfl | rfl
  · exact it_row (fun q hq => (h.2.1 q hq).sz (by decide)) l (by have := h.1; omega)
  · exact it_fr (h.2.2.sz (by decide)) l
def lotD (size : Int) (ws : List Wish) : D := .tuple [.int size, .tuple (ws.map wishD)]
theorem it_lot {ws : List Wish} {m : Nat} {n : Int} (h : ∀ w ∈ ws, WishOk n w) (l : 1900 ≤ m) (h0 : 0 ≤ n) (hn : n ≤ 1000) (hl : ws.length ≤ 1000) : itD m (lotD n ws) := by
  unfold lotD
  rw [itT]
  refine ⟨by simp, fun d hd => ?_⟩
  simp only [List.mem_cons, List.not_mem_nil, or_false] at hd
  rcases hd with rfl | rfl
  · rw [itD]
    exact (Bt.lt (i := n) (by omega)).mono (by omega)
  · rw [itT]
    refine ⟨by simpa using hl, fun d hd => ?_⟩
    obtain ⟨w, hw, rfl⟩ := List.mem_map.mp hd
    exact it_wish (h w hw) l hn
theorem dep_row (qs : List Rat) : (rowD qs).depth ≤ 2 := by
  have := dep_frs qs
  simp only [rowD, PyData.depth]
  omega
theorem dep_lot (n : Int) (ws : List Wish) : (lotD n ws).depth ≤ 5 := by
  have := dep_wishes ws
  simp only [lotD, PyData.depth, PyData.depthAll]
  omega
end Sx
namespace Sx
open PySem PySem.Spec
/-- a comprehension over what a call makes -/
theorem lc_mapI {fi : Ev → Store → Out (List D)} {own : List Nat} {fg : R → Ev → Store → Out Ev} {ft : Ev → Store → Out Bool} {fe : Fe} {e : Ev} {S : Store} {Q : R → Store → Prop} {g : D → D}
    (h : Ok (fi e S) fun xs S1 => xs.length ≤ 16777216 ∧ (∀ x ∈ xs, ∀ acc, lcStep own fg ft fe e x (S1 ++ [.lst acc]) = .ok (some (g x)) (S1 ++ [.lst acc])) ∧ Q (.d (.list (xs.map g))) S1) : Ok (lcF fi own fg ft fe e S) Q := by
  obtain ⟨xs, S1, e1, h1, h2, h3⟩ := h
  refine ⟨_, S1, ?_, h3⟩
  have := lc_map (fi := fun _ _ => .ok xs S1) (own := own) (fg := fg) (ft := ft) (fe := fe) (e := e) (S := S1) (xs := xs) (g := g) rfl h2 h1
  unfold lcF at this ⊢
  rw [e1]
  exact this
def frI (z : Int) : D := .tuple [.int z, .int 1]
theorem frI_eq (z : Int) : frI z = fr (z : Rat) := rfl
end Sx
set_option Elab.async false
set_option linter.all false
set_option maxRecDepth 100000
set_option maxHeartbeats 1000000
/-! Sx, part X: plain: charts. -/
namespace Sx
open PySem PySem.Spec
def fstD : D → D
  | .tuple (x :: _) => x
  | _ => .none
def lotOfB (size most : Int) (d : D) : Bool := lotB most d && (numD (fstD d) == size)
theorem lot_shape {most : Int} {d : D} (h : lotB most d = true) : ∃ n ws, d = .tuple [.int n, .tuple ws] ∧ 1 ≤ n ∧ n ≤ 12 ∧ (ws.length : Int) ≤ most ∧ ∀ w ∈ ws, wishB n w = true := by
  unfold lotB at h
  split at h
  · rename_i x y
    rw [Bool.and_eq_true] at h
    obtain ⟨n, rfl, h1, h2⟩ := between_int h.1
    have h3 := h.2
    cases y <;> simp [wishesB, numD] at h3
    exact ⟨n, _, rfl, h1, h2, h3.1, h3.2⟩
  · cases h
def startB (size places : Int) : D → Bool
  | .tuple [x, y] => betweenB x 0 (places - 1) && lotOfB size 40 y
  | _ => false
def mapB (size both : Int) : D → Bool
  | .tuple ds => decide ((ds.length : Int) = size) && ds.all (wishB both)
  | _ => false
def caseB (size both places : Int) : D → Bool
  | .tuple [x, g, l, y] => betweenB x 0 (places - 1) && (betweenB y 0 (places - 1) && (lotOfB both 40 g && mapB size both l))
  | _ => false
def sizedB : D → D → Bool
  | .int n, .int m => (decide (1 ≤ n) && decide (n ≤ 8)) && ((decide (0 ≤ m) && decide (m ≤ 6)) && decide (n + m ≤ 12))
  | _, _ => false
theorem sized_int {a b : D} (h : sizedB a b = true) : ∃ n m, a = .int n ∧ b = .int m ∧ 1 ≤ n ∧ n ≤ 8 ∧ 0 ≤ m ∧ m ≤ 6 ∧ n + m ≤ 12 := by
  unfold sizedB at h
  split at h
  · simp only [Bool.and_eq_true, decide_eq_true_eq] at h
    exact ⟨_, _, rfl, rfl, h.1.1, h.1.2, h.2.1.1, h.2.1.2, h.2.2⟩
  · cases h
def tupB (lo hi : Int) (f : D → Bool) : D → Bool
  | .tuple ds => decide (lo ≤ ds.length) && decide ((ds.length : Int) ≤ hi) && ds.all f
  | _ => false
def lenD : D → Int
  | .tuple ds => ds.length
  | _ => 0
def chartB : D → Bool
  | .tuple [a, b, st, cs, sf] => sizedB a b && (tupB 1 12 (lotOfB (numD a) 40) sf && (tupB 1 12 (startB (numD a) (lenD sf)) st && tupB 0 120 (caseB (numD a) (numD a + numD b) (lenD sf)) cs))
  | _ => false
/-! ### drawn charts -/
structure Start where
  p : Int
  ws : List Wish
structure Case where
  fro : Int
  guard : List Wish
  led : List Wish
  to : Int
structure Chart where
  size : Int
  more : Int
  starts : List Start
  cases : List Case
  safes : List (List Wish)
def startD (n : Int) (s : Start) : D := .tuple [.int s.p, lotD n s.ws]
def caseD (n m : Int) (c : Case) : D := .tuple [.int c.fro, lotD (n + m) c.guard, .tuple (c.led.map wishD), .int c.to]
def chartD (c : Chart) : D := .tuple [.int c.size, .int c.more, .tuple (c.starts.map (startD c.size)), .tuple (c.cases.map (caseD c.size c.more)), .tuple (c.safes.map (lotD c.size))]
def LotOk (n m : Int) (ws : List Wish) : Prop := (ws.length : Int) ≤ m ∧ ∀ w ∈ ws, WishOk n w
structure StartOk (n pl : Int) (s : Start) : Prop where
  p0 : 0 ≤ s.p
  p1 : s.p < pl
  ws : LotOk n 3 s.ws
structure CaseOk (n m pl : Int) (c : Case) : Prop where
  f0 : 0 ≤ c.fro
  f1 : c.fro < pl
  t0 : 0 ≤ c.to
  t1 : c.to < pl
  guard : LotOk (n + m) 3 c.guard
  len : (c.led.length : Int) = n
  led : ∀ w ∈ c.led, WishOk (n + m) w
structure ChartOk (c : Chart) : Prop where
  s0 : 1 ≤ c.size
  s1 : c.size ≤ 8
  m0 : 0 ≤ c.more
  m1 : c.more ≤ 2
  st0 : 1 ≤ c.starts.length
  st1 : c.starts.length ≤ 3
  cs1 : c.cases.length ≤ 4
  sf0 : 1 ≤ c.safes.length
  sf1 : c.safes.length ≤ 3
  starts : ∀ s ∈ c.starts, StartOk c.size c.safes.length s
  cases : ∀ s ∈ c.cases, CaseOk c.size c.more c.safes.length s
  safes : ∀ s ∈ c.safes, LotOk c.size 3 s
theorem wish_ok {n : Int} {w : Wish} (h : WishOk n w) : wishB n (wishD w) = true := by
  simp only [wishB, wishD, Bool.and_eq_true]
  refine ⟨?_, fr_ratio _⟩
  rw [← h.1]
  exact rowD_ratio
theorem lot_ok {n m most : Int} {ws : List Wish} (h : LotOk n m ws) (h0 : 1 ≤ n) (h1 : n ≤ 12) (hm : m ≤ most) : lotB most (lotD n ws) = true := by
  have := h.1
  simp only [lotB, lotD, betweenB, wishesB, numD, Bool.and_eq_true, decide_eq_true_eq, List.length_map, List.all_eq_true]
  refine ⟨⟨h0, h1⟩, by omega, fun d hd => ?_⟩
  obtain ⟨w, hw, rfl⟩ := List.mem_map.mp hd
  exact wish_ok (h.2 w hw)
theorem lotOf_ok {n m most : Int} {ws : List Wish} (h : LotOk n m ws) (h0 : 1 ≤ n) (h1 : n ≤ 12) (hm : m ≤ most) : lotOfB n most (lotD n ws) = true := by
  unfold lotOfB
  rw [lot_ok h h0 h1 hm]
  simp [lotD, fstD, numD]
theorem start_ok {n pl : Int} {s : Start} (h : StartOk n pl s) (h0 : 1 ≤ n) (h1 : n ≤ 12) : startB n pl (startD n s) = true := by
  have := h.p0
  have := h.p1
  simp only [startB, startD, betweenB, Bool.and_eq_true, decide_eq_true_eq]
  exact ⟨by omega, lotOf_ok h.ws h0 h1 (by decide)⟩
theorem case_ok {n m pl : Int} {c : Case} (h : CaseOk n m pl c) (h0 : 1 ≤ n) (hm : 0 ≤ m) (h1 : n + m ≤ 12) : caseB n (n + m) pl (caseD n m c) = true := by
  have := h.f0
  have := h.f1
  have := h.t0
  have := h.t1
  simp only [caseB, caseD, betweenB, mapB, Bool.and_eq_true, decide_eq_true_eq, List.length_map, List.all_eq_true]
  refine ⟨by omega, by omega, lotOf_ok h.guard (by omega) h1 (by decide), h.len, fun d hd => ?_⟩
  obtain ⟨w, hw, rfl⟩ := List.mem_map.mp hd
  exact wish_ok (h.led w hw)
theorem chart_ok {c : Chart} (h : ChartOk c) : chartB (chartD c) = true := by
  have a0 := h.s0
  have a1 := h.s1
  have a2 := h.m0
  have a3 := h.m1
  have a4 := h.st0
  have a5 := h.st1
  have a6 := h.cs1
  have a7 := h.sf0
  have a8 := h.sf1
  simp only [chartB, chartD, sizedB, tupB, betweenB, numD, lenD, Bool.and_eq_true, decide_eq_true_eq, List.length_map, List.all_eq_true]
  refine ⟨by omega, ⟨by omega, fun d hd => ?_⟩, ⟨by omega, fun d hd => ?_⟩, ⟨by omega, fun d hd => ?_⟩⟩
  · obtain ⟨w, hw, rfl⟩ := List.mem_map.mp hd
    exact lotOf_ok (h.safes w hw) a0 (by omega) (by decide)
  · obtain ⟨w, hw, rfl⟩ := List.mem_map.mp hd
    exact start_ok (h.starts w hw) a0 (by omega)
  · obtain ⟨w, hw, rfl⟩ := List.mem_map.mp hd
    exact case_ok (h.cases w hw) a0 a2 (by omega)
/-! ### sizes of charts -/
theorem it_int {n : Int} {m : Nat} (h : -(2 ^ 60) < n ∧ n < 2 ^ 60) (l : 60 ≤ m) : itD m (.int n) := by
  rw [itD]
  exact (Bt.lt h).mono l
theorem it_tup {m : Nat} {xs : List D} (hl : xs.length ≤ 1000) (h : ∀ d ∈ xs, itD m d) : itD m (.tuple xs) := itT.mpr ⟨hl, h⟩
theorem dep_tup {n : Nat} {xs : List D} (h : ∀ d ∈ xs, d.depth ≤ n) : (PyData.tuple xs).depth ≤ n + 1 := by
  have : ∀ ys : List D, (∀ d ∈ ys, d.depth ≤ n) → PyData.depthAll ys ≤ n := by
    intro ys
    induction ys with
    | nil => intro _; simp [PyData.depthAll]
    | cons y ys ih =>
      intro h
      simp only [PyData.depthAll]
      have := h y List.mem_cons_self
      have := ih fun d hd => h d (List.mem_cons_of_mem _ hd)
      omega
  have := this xs h
  simp only [PyData.depth]
  omega
/-- small: numbers within tuples, k deep -/
def Stt (k : Nat) (d : D) : Prop := itD 1900 d ∧ d.depth ≤ k
theorem stt_int {n : Int} {k : Nat} (h : -(2 ^ 60) < n ∧ n < 2 ^ 60) : Stt k (.int n) := ⟨it_int h (by decide), Nat.zero_le _⟩
theorem stt_tup {k : Nat} {xs : List D} (hl : xs.length ≤ 1000) (h : ∀ d ∈ xs, Stt k d) : Stt (k + 1) (.tuple xs) := ⟨it_tup hl fun d hd => (h d hd).1, dep_tup fun d hd => (h d hd).2⟩
theorem Stt.mono {k k' : Nat} {d : D} (h : Stt k d) (l : k ≤ k') : Stt k' d := ⟨h.1, Nat.le_trans h.2 l⟩
theorem stt_wish {n : Int} {w : Wish} (h : WishOk n w) (hn : n ≤ 1000) : Stt 3 (wishD w) := ⟨it_wish h (by decide) hn, dep_wish w⟩
theorem stt_lot {n m : Int} {ws : List Wish} (h : LotOk n m ws) (h0 : 0 ≤ n) (hn : n ≤ 1000) (hm : m ≤ 1000) : Stt 5 (lotD n ws) := ⟨it_lot h.2 (by decide) h0 hn (by have := h.1; omega), dep_lot n ws⟩
theorem stt_row {qs : List Rat} (h : ∀ q ∈ qs, Qb 1 3 q) (hl : qs.length ≤ 1000) : Stt 2 (rowD qs) := ⟨it_row (fun q hq => (h q hq).sz (by decide)) (by decide) hl, dep_row qs⟩
theorem stt_fr {q : Rat} (h : Qb 1 3 q) : Stt 2 (fr q) := ⟨it_fr (h.sz (by decide)) (by decide), by rw [dep_fr]; decide⟩
theorem stt_start {n pl : Int} {s : Start} (h : StartOk n pl s) (h0 : 0 ≤ n) (hn : n ≤ 12) (hp : pl ≤ 100) : Stt 6 (startD n s) := by
  have := h.p0
  have := h.p1
  refine stt_tup (by simp) fun d hd => ?_
  simp only [List.mem_cons, List.not_mem_nil, or_false] at hd
  rcases hd with rfl | rfl
  · exact stt_int (by omega)
  · exact stt_lot h.ws h0 (by omega) (by decide)
theorem stt_case {n m pl : Int} {c : Case} (h : CaseOk n m pl c) (h0 : 0 ≤ n) (hm : 0 ≤ m) (hn : n + m ≤ 12) (hp : pl ≤ 100) : Stt 6 (caseD n m c) := by
  have := h.f0
  have := h.f1
  have := h.t0
  have := h.t1
  have := h.len
  refine stt_tup (by simp) fun d hd => ?_
  simp only [List.mem_cons, List.not_mem_nil, or_false] at hd
  rcases hd with rfl | rfl | rfl | rfl
  · exact stt_int (by omega)
  · exact stt_lot h.guard (by omega) (by omega) (by decide)
  · refine (stt_tup (k := 3) (by simp; omega) fun d hd => ?_).mono (by decide)
    obtain ⟨w, hw, rfl⟩ := List.mem_map.mp hd
    exact stt_wish (h.led w hw) (by omega)
  · exact stt_int (by omega)
theorem stt_chart {c : Chart} (h : ChartOk c) : Stt 8 (chartD c) := by
  have a0 := h.s0
  have a1 := h.s1
  have a2 := h.m0
  have a3 := h.m1
  have a5 := h.st1
  have a6 := h.cs1
  have a8 := h.sf1
  refine stt_tup (by simp) fun d hd => ?_
  simp only [List.mem_cons, List.not_mem_nil, or_false] at hd
  rcases hd with rfl | rfl | rfl | rfl | rfl
  · exact stt_int (by omega)
  · exact stt_int (by omega)
  · refine stt_tup (by simp; omega) fun d hd => ?_
    obtain ⟨w, hw, rfl⟩ := List.mem_map.mp hd
    exact stt_start (h.starts w hw) (by omega) (by omega) (by omega)
  · refine stt_tup (by simp; omega) fun d hd => ?_
    obtain ⟨w, hw, rfl⟩ := List.mem_map.mp hd
    exact stt_case (h.cases w hw) (by omega) (by omega) (by omega) (by omega)
  · refine stt_tup (by simp; omega) fun d hd => ?_
    obtain ⟨w, hw, rfl⟩ := List.mem_map.mp hd
    exact (stt_lot (h.safes w hw) (by omega) (by omega) (by decide)).mono (by decide)
/-! ### lists put together while the store grows -/
def TwoE (i n : Nat) (S S' : Store) : Prop := S.length ≤ S'.length ∧ ∀ t, t < S.length → t ≠ i → t ≠ n → S'[t]? = S[t]?
theorem TwoE.refl {i n : Nat} {S : Store} : TwoE i n S S := ⟨Nat.le_refl _, fun _ _ _ _ => rfl⟩
theorem TwoE.trans {i n : Nat} {S S' S'' : Store} (a : TwoE i n S S') (b : TwoE i n S' S'') : TwoE i n S S'' := ⟨Nat.le_trans a.1 b.1, fun t h h1 h2 => (b.2 t (Nat.lt_of_lt_of_le h a.1) h1 h2).trans (a.2 t h h1 h2)⟩
theorem Same.twoE {i n : Nat} {S S' : Store} (h : Same i S S') : TwoE i n S S' := ⟨Nat.le_of_eq h.1.symm, fun t _ h1 _ => h.2 t h1⟩
theorem TwoE.set {i n : Nat} {S S' : Store} (h : TwoE i n S S') (c : Cell) : TwoE i n S (S'.set n c) := ⟨by rw [List.length_set]; exact h.1, fun t hl h1 h2 => by rw [get_set_ne (Ne.symm h2)]; exact h.2 t hl h1 h2⟩
theorem TwoE.setNew {i n j : Nat} {S S' : Store} (h : TwoE i n S S') (hj : S.length ≤ j) (c : Cell) : TwoE i n S (S'.set j c) := ⟨by rw [List.length_set]; exact h.1, fun t hl h1 h2 => by rw [get_set_ne (by omega)]; exact h.2 t hl h1 h2⟩
theorem TwoE.app {i n : Nat} {S S' : Store} (h : TwoE i n S S') (c : Cell) : TwoE i n S (S' ++ [c]) := ⟨by simp; have := h.1; omega, fun t hl h1 h2 => by rw [get_app (by have := h.1; omega)]; exact h.2 t hl h1 h2⟩
theorem Two.twoE {i n : Nat} {S S' : Store} (h : Two i n S S') : TwoE i n S S' := ⟨Nat.le_of_eq h.1.symm, fun t _ h1 h2 => h.2 t h1 h2⟩
/-- .. what stands at n was not there -/
theorem TwoE.ext {i n : Nat} {S S0 S' : Store} (e : Ext i S S0) (h : TwoE i n S0 S') (hn : S.length ≤ n) : Ext i S S' := ⟨Nat.le_trans e.1 h.1, fun t h1 h2 => (h.2 t (Nat.lt_of_lt_of_le h2 e.1) h1 (by omega)).trans (e.2 t h1 h2)⟩
theorem collectE {f : D → Ev → Store → Out (Fl × Ev)} {Q : Fl × Ev → Store → Prop} {S0 : Store} {i n : Nat} {b c : Int} (E : Ev → Prop) (P : Nat → D → Prop) {xs : List D} {e0 : Ev}
    (hn : S0[n]? = some (.lst [])) (he : E e0) (hu : Urn S0 i b) (hb : c * xs.length ≤ b) (hc : 0 ≤ c)
    (step : ∀ j x e S' acc b', xs[j]? = some x → E e → TwoE i n S0 S' → S'[n]? = some (.lst acc) → acc.length = j → (∀ t d, acc[t]? = some d → P t d) → Urn S' i b' → c ≤ b' →
      Ok (f x e S') (turnQ (fun e2 S2 => E e2 ∧ TwoE i n S' S2 ∧ Urn S2 i (b' - c) ∧ ∃ d, P j d ∧ S2[n]? = some (.lst (acc ++ [d]))) Q))
    (fin : ∀ e S' acc, E e → TwoE i n S0 S' → S'[n]? = some (.lst acc) → acc.length = xs.length → (∀ t d, acc[t]? = some d → P t d) → Urn S' i (b - c * xs.length) → Q (.nx, e) S') : Ok (forD f xs e0 S0) Q := by
  refine for_inv (fun j e S' => j ≤ xs.length ∧ E e ∧ TwoE i n S0 S' ∧ Urn S' i (b - c * j) ∧ ∃ acc, S'[n]? = some (.lst acc) ∧ acc.length = j ∧ ∀ t d, acc[t]? = some d → P t d) ⟨Nat.zero_le _, he, .refl, by simpa using hu, [], hn, rfl, fun t d h => by simp at h⟩ (fun j x e S' hx hI => ?_) (fun e S' hI => ?_)
  · obtain ⟨hj, hE, h2, hu', acc, ha, hl, hP⟩ := hI
    have hj' := lt_of_get hx
    have e1 : c * ((j : Int) + 1) ≤ c * xs.length := Int.mul_le_mul_of_nonneg_left (by omega) hc
    have e2 : c * ((j : Int) + 1) = c * j + c := by rw [Int.mul_add, Int.mul_one]
    have nxt : ∀ e3 S2, (E e3 ∧ TwoE i n S' S2 ∧ Urn S2 i (b - c * j - c) ∧ ∃ d, P j d ∧ S2[n]? = some (.lst (acc ++ [d]))) → j + 1 ≤ xs.length ∧ E e3 ∧ TwoE i n S0 S2 ∧ Urn S2 i (b - c * ((j + 1 : Nat) : Int)) ∧ ∃ acc, S2[n]? = some (.lst acc) ∧ acc.length = j + 1 ∧ ∀ t d, acc[t]? = some d → P t d := by
      intro e3 S2 ⟨q1, q2, q3, d, q4, q5⟩
      refine ⟨by omega, q1, h2.trans q2, ?_, acc ++ [d], q5, by simp [hl], fun t y hy => ?_⟩
      · have : b - c * j - c = b - c * ((j + 1 : Nat) : Int) := by rw [Int.natCast_add, Int.natCast_one, e2]; omega
        rw [← this]; exact q3
      · by_cases ht : t < acc.length
        · rw [List.getElem?_append_left ht] at hy; exact hP t y hy
        · rw [List.getElem?_append_right (by omega)] at hy
          have e0 : t - acc.length = 0 := by have := lt_of_get hy; simp at this; omega
          rw [e0] at hy
          simp at hy
          subst hy
          rw [show t = j by omega]
          exact q4
    refine (step j x e S' acc (b - c * j) hx hE h2 ha hl hP hu' (by omega)).imp ?_
    rintro ⟨fl, e3⟩ S2 q
    cases fl with
    | nx => exact nxt e3 S2 q
    | ct => exact nxt e3 S2 q
    | bk => exact q
    | rt r => exact q
  · obtain ⟨hj, hE, h2, hu', acc, ha, hl, hP⟩ := hI
    exact fin e S' acc hE h2 ha hl hP hu'
/-- data one by one as things of a kind -/
theorem things_of {t : Type} {f : t → D} : ∀ {xs : List D} {P : t → Prop}, (∀ d ∈ xs, ∃ w, d = f w ∧ P w) → ∃ ws : List t, xs = ws.map f ∧ ∀ w ∈ ws, P w
  | [], _, _ => ⟨[], rfl, fun q h => by cases h⟩
  | x :: xs, P, h => by
    obtain ⟨q, rfl, hq⟩ := h x List.mem_cons_self
    obtain ⟨qs, rfl, hqs⟩ := things_of (xs := xs) (P := P) fun d hd => h d (List.mem_cons_of_mem _ hd)
    refine ⟨q :: qs, rfl, fun p hp => ?_⟩
    rcases List.mem_cons.mp hp with rfl | hp
    · exact hq
    · exact hqs p hp
end Sx
set_option Elab.async false
set_option linter.all false
set_option maxRecDepth 100000
set_option maxHeartbeats 1000000
/-! Sx, part Y: plain: sums of rows. -/
namespace Sx
open PySem PySem.Spec
theorem Qb.zero {j m : Nat} : Qb j m 0 := ⟨0, by simp, by simp⟩
def dotF (a : Rat) : List Rat → List Rat → Rat
  | p :: ps, q :: qs => dotF (a + p * q) ps qs
  | _, _ => a
def dotQ (ps qs : List Rat) : Rat := dotF 0 ps qs
theorem dotF_qb {J M : Nat} : ∀ {ps qs : List Rat} {a : Rat} {t : Nat}, Qb J (M + t) a → (∀ p ∈ ps, ∀ q ∈ qs, Qb J M (p * q)) → Qb J (M + t + ps.length) (dotF a ps qs)
  | [], qs, a, t, h, _ => by
    cases qs <;> exact h
  | p :: ps, [], a, t, h, _ => h.mono (Nat.le_refl _) (by omega)
  | p :: ps, q :: qs, a, t, h, hp => by
    have h1 := h.add (hp p List.mem_cons_self q List.mem_cons_self)
    have h2 : Qb J (M + (t + 1)) (a + p * q) := h1.mono (by omega) (by omega)
    have := dotF_qb (ps := ps) (qs := qs) h2 fun p' hp' q' hq' => hp p' (List.mem_cons_of_mem _ hp') q' (List.mem_cons_of_mem _ hq')
    exact this.mono (Nat.le_refl _) (by simp; omega)
theorem dotQ_qb {j j' m m' : Nat} {ps qs : List Rat} (hp : ∀ p ∈ ps, Qb j m p) (hq : ∀ q ∈ qs, Qb j' m' q) : Qb (j + j') (m + m' + ps.length) (dotQ ps qs) := by
  have := dotF_qb (J := j + j') (M := m + m') (ps := ps) (qs := qs) (a := 0) (t := 0) Qb.zero fun p h q g => (hp p h).mul (hq q g)
  unfold dotQ
  simpa using this
def liesQ (ws : List Wish) (pt : List Rat) : Bool := ws.all fun w => decide (dotQ w.r pt ≤ w.b)
theorem up_to (p q : Rat) : decide (p.num * q.den ≤ q.num * p.den) = decide (p ≤ q) := by rw [decide_eq_decide, Rat.le_iff]
theorem sz_plus {p q : Rat} (hp : Sz p) (hq : Sz q) : opB .mul (.int p.num) (.int q.den) = some (.int (p.num * q.den)) ∧ opB .mul (.int q.num) (.int p.den) = some (.int (q.num * p.den)) ∧ opB .mul (.int p.den) (.int q.den) = some (.int (p.den * q.den)) ∧ opB .mul (.int p.num) (.int q.num) = some (.int (p.num * q.num)) ∧ Bt 8000 (p.den * q.den : Int) :=
  ⟨mul_bt hp.1 hq.2 (by decide), mul_bt hq.1 hp.2 (by decide), mul_bt hp.2 hq.2 (by decide), mul_bt hp.1 hq.1 (by decide), (hp.2.mul hq.2).mono (by decide)⟩
theorem row_at {qs : List Rat} {n : Int} (h0 : 0 ≤ n) (h1 : n < qs.length) : ∃ q ∈ qs, L2.atI (qs.map fr) n = some (fr q) := by
  obtain ⟨d, hd, e⟩ := atI_at (xs := qs.map fr) h0 (by simpa using h1)
  obtain ⟨q, hq, rfl⟩ := List.mem_map.mp hd
  exact ⟨q, hq, e⟩
end Sx
namespace Sx
open PySem PySem.Spec
/-! ### rows mixed -/
def plusR (a b : List Rat) : List Rat := List.zipWith (· + ·) a b
def scaleR (r : List Rat) (q : Rat) : List Rat := r.map (· * q)
def mixF (a : List Rat) : List (List Rat) → List Rat → List Rat
  | r :: rs, q :: qs => mixF (if q = 0 then a else plusR a (scaleR r q)) rs qs
  | _, _ => a
def colQ (rows : List (List Rat)) (s : Nat) : List Rat := rows.map fun r => r.getD s 0
theorem list_by {n : Nat} {a : List Rat} (h : a.length = n) : a = (List.range n).map fun s => a.getD s 0 := by
  refine List.ext_getElem (by simp [h]) fun i h1 h2 => ?_
  simp [h1]
theorem plusR_at {n : Nat} {a b : List Rat} (ha : a.length = n) (hb : b.length = n) (q : Rat) {s : Nat} (hs : s < n) : (plusR a (scaleR b q)).getD s 0 = a.getD s 0 + b.getD s 0 * q := by
  have h1 : s < a.length := by omega
  have h2 : s < b.length := by omega
  unfold plusR scaleR
  rw [List.getD_eq_getElem?_getD, List.getElem?_zipWith, List.getElem?_map, List.getElem?_eq_getElem h1, List.getElem?_eq_getElem h2, List.getD_eq_getElem?_getD, List.getElem?_eq_getElem h1, List.getD_eq_getElem?_getD, List.getElem?_eq_getElem h2]
  rfl
theorem mixF_len {n : Nat} : ∀ {rows : List (List Rat)} {nums a : List Rat}, a.length = n → (∀ r ∈ rows, r.length = n) → (mixF a rows nums).length = n
  | [], nums, a, h, _ => by cases nums <;> exact h
  | r :: rs, [], a, h, _ => h
  | r :: rs, q :: qs, a, h, hr => by
    unfold mixF
    refine mixF_len ?_ fun x hx => hr x (List.mem_cons_of_mem _ hx)
    have := hr r List.mem_cons_self
    split
    · exact h
    · simp [plusR, scaleR, h, this]
theorem mixF_at {n : Nat} : ∀ {rows : List (List Rat)} {nums a : List Rat}, a.length = n → (∀ r ∈ rows, r.length = n) → ∀ s, s < n → (mixF a rows nums).getD s 0 = dotF (a.getD s 0) nums (colQ rows s)
  | [], nums, a, h, _, s, hs => by cases nums <;> rfl
  | r :: rs, [], a, h, _, s, hs => rfl
  | r :: rs, q :: qs, a, h, hr, s, hs => by
    have hl := hr r List.mem_cons_self
    unfold mixF
    rw [mixF_at (n := n) (by split; exact h; simp [plusR, scaleR, h, hl]) (fun x hx => hr x (List.mem_cons_of_mem _ hx)) s hs]
    show _ = dotF (a.getD s 0 + q * r.getD s 0) qs (colQ rs s)
    congr 1
    split
    · rename_i e
      rw [e, Rat.zero_mul, Rat.add_zero]
    · rw [plusR_at h hl q hs, Rat.mul_comm]
theorem mix_eq {n : Nat} {rows : List (List Rat)} {nums a : List Rat} (ha : a.length = n) (hr : ∀ r ∈ rows, r.length = n) : mixF a rows nums = (List.range n).map fun s => dotF (a.getD s 0) nums (colQ rows s) := by
  rw [list_by (mixF_len (nums := nums) ha hr)]
  refine List.map_congr_left fun s hs => ?_
  exact mixF_at ha hr s (List.mem_range.mp hs)
theorem mixF_qb {j j' m m' : Nat} : ∀ {rows : List (List Rat)} {nums a : List Rat} {t : Nat}, (∀ x ∈ a, Qb (j + j') (m + m' + t) x) → (∀ r ∈ rows, ∀ x ∈ r, Qb j m x) → (∀ q ∈ nums, Qb j' m' q) → ∀ x ∈ mixF a rows nums, Qb (j + j') (m + m' + t + rows.length) x
  | [], nums, a, t, h, _, _ => by cases nums <;> exact h
  | r :: rs, [], a, t, h, _, _ => fun x hx => (h x hx).mono (Nat.le_refl _) (by omega)
  | r :: rs, q :: qs, a, t, h, hr, hq => by
    intro x hx
    unfold mixF at hx
    have step : ∀ y ∈ (if q = 0 then a else plusR a (scaleR r q)), Qb (j + j') (m + m' + (t + 1)) y := by
      intro y hy
      split at hy
      · exact (h y hy).mono (Nat.le_refl _) (by omega)
      · unfold plusR scaleR at hy
        obtain ⟨i, hi, e⟩ := List.mem_iff_getElem.mp hy
        simp at hi e
        rw [← e]
        have h1 := h _ (List.getElem_mem (by omega : i < a.length))
        have h2 := (hr r List.mem_cons_self _ (List.getElem_mem (by omega : i < r.length))).mul (hq q List.mem_cons_self)
        exact (h1.add h2).mono (by omega) (by omega)
    have := mixF_qb (rows := rs) (nums := qs) step (fun r' hr' => hr r' (List.mem_cons_of_mem _ hr')) (fun q' hq' => hq q' (List.mem_cons_of_mem _ hq')) x hx
    exact this.mono (Nat.le_refl _) (by simp; omega)
def nulR (n : Nat) : List Rat := List.replicate n 0
theorem nulR_at (n s : Nat) : (nulR n).getD s 0 = 0 := by
  unfold nulR
  rw [List.getD_eq_getElem?_getD, List.getElem?_replicate]
  split <;> rfl
/-! ### small texts -/
theorem sml_100 {i : Int} (h : i.natAbs < 2 ^ 100) : Sml 101 0 (.int i) := by
  have h1 := log2_lt h (by decide)
  refine ⟨rfl, by simp only [PyData.showable, decide_eq_true_eq]; omega, Nat.le_refl _, ?_⟩
  have e := int_text_length_le (a := i) (k := 100) (by decide) (by omega)
  show (Str.ofString (toString i)).length ≤ _
  rw [ofString_length]; exact e
theorem Qb.bt {j m : Nat} {q : Rat} (h : Qb j m q) : Bt (m + 13 * j + 1) q.num ∧ Bt (m + 13 * j + 1) (q.den : Int) := by
  obtain ⟨n, rfl, hn⟩ := h
  have h1 : 5040 ^ j ≤ 2 ^ (13 * j) := by
    rw [Nat.pow_mul]
    exact Nat.pow_le_pow_left (by decide) j
  have h0 := p5040 j
  constructor
  · unfold Bt
    rw [Rat.num_mkRat, if_neg h0]
    have h2 : (n / (Nat.gcd (5040 ^ j) n.natAbs : Nat)).natAbs ≤ n.natAbs := Int.natAbs_ediv_le_natAbs _ _
    have h3 : 2 ^ m * 5040 ^ j ≤ 2 ^ m * 2 ^ (13 * j) := Nat.mul_le_mul_left _ h1
    rw [← Nat.pow_add] at h3
    have h4 : 2 ^ (m + 13 * j) < 2 ^ (m + 13 * j + 1) := Nat.pow_lt_pow_right (by decide) (by omega)
    omega
  · refine Bt.mono (a := 13 * j + 1) ?_ (by omega)
    unfold Bt
    rw [Rat.den_mkRat, if_neg h0, Int.natAbs_natCast]
    have h2 : 5040 ^ j / Nat.gcd (5040 ^ j) n.natAbs ≤ 5040 ^ j := Nat.div_le_self _ _
    have h4 : 2 ^ (13 * j) < 2 ^ (13 * j + 1) := Nat.pow_lt_pow_right (by decide) (by omega)
    omega
theorem sml_fr {j m : Nat} {q : Rat} (h : Qb j m q) (l : m + 13 * j < 99) : Sml 209 1 (fr q) := by
  obtain ⟨h1, h2⟩ := h.bt
  refine (sml_tuple (B := 101) (k := 0) fun x hx => ?_).weak (by simp) (by omega)
  simp only [List.mem_cons, List.not_mem_nil, or_false] at hx
  rcases hx with rfl | rfl
  · exact sml_100 (h1.mono (by omega))
  · exact sml_100 (h2.mono (by omega))
theorem sml_row {j m n : Nat} {qs : List Rat} (h : ∀ q ∈ qs, Qb j m q) (l : m + 13 * j < 99) (hn : qs.length ≤ n) : Sml (n * 211 + 3) 2 (rowD qs) := by
  have := sml_tuple (B := 209) (k := 1) (xs := qs.map fr) fun x hx => by
    obtain ⟨q, hq, rfl⟩ := List.mem_map.mp hx
    exact sml_fr (h q hq) l
  refine this.weak ?_ (Nat.le_refl _)
  simp only [List.length_map]
  have := Nat.mul_le_mul_right 211 hn
  omega
theorem sml_wish {n : Int} {w : Wish} (h : WishOk n w) (hn : n ≤ 12) : Sml 6000 3 (wishD w) := by
  refine (sml_tuple (B := 2600) (k := 2) fun x hx => ?_).weak (by simp) (Nat.le_refl _)
  simp only [List.mem_cons, List.not_mem_nil, or_false] at hx
  rcases hx with rfl | rfl
  · exact (sml_row (n := 12) h.2.1 (by decide) (by have := h.1; omega)).weak (by decide) (by decide)
  · exact (sml_fr h.2.2 (by decide)).weak (by decide) (by decide)
theorem sml_many {B k n : Nat} {xs : List D} (h : ∀ x ∈ xs, Sml B k x) (hn : xs.length ≤ n) : Sml (n * (B + 2) + 3) (k + 1) (.tuple xs) := by
  refine (sml_tuple h).weak ?_ (Nat.le_refl _)
  have := Nat.mul_le_mul_right (B + 2) hn
  omega
end Sx
namespace Sx
open PySem PySem.Spec
/-! ### loops over things of a kind -/
theorem lcD_runT {t : Type} {S : Store} (step : D → Store → Out (Option D)) (g : t → D) (f : t → Option D) : ∀ (ws : List t) (acc : List D), (∀ w ∈ ws, ∀ acc, step (g w) (S ++ [.lst acc]) = .ok (f w) (S ++ [.lst acc])) → acc.length + ws.length ≤ 16777216 →
    lcD S.length step (ws.map g) (S ++ [.lst acc]) = .ok () (S ++ [.lst (acc ++ ws.filterMap f)])
  | [], acc, _, _ => by simp [lcD]
  | x :: xs, acc, h, hl => by
    rw [List.length_cons] at hl
    rw [List.map_cons]
    unfold lcD
    rw [h x (List.mem_cons_self) acc]
    simp only [calm_ok, Out.bind_ok]
    have hr := fun acc h2 => lcD_runT step g f xs acc (fun y hy => h y (List.mem_cons_of_mem _ hy)) h2
    cases hf : f x with
    | none =>
      dsimp only
      rw [hr acc (by omega), List.filterMap_cons, hf]
    | some y =>
      dsimp only
      rw [get_new]
      dsimp only
      rw [if_pos (by rw [decide_eq_true_eq]; unfold sizeLine; omega)]
      have es : (S ++ [Cell.lst acc]).set S.length (.lst (acc ++ [y])) = S ++ [.lst (acc ++ [y])] := by simp
      rw [es, hr (acc ++ [y]) (by simp; omega), List.filterMap_cons, hf]
      simp
theorem lc_runT {t : Type} {fi : Ev → Store → Out (List D)} {own : List Nat} {fg : R → Ev → Store → Out Ev} {ft : Ev → Store → Out Bool} {fe : Fe} {e : Ev} {S : Store} (g : t → D) (f : t → Option D) (ws : List t) (hi : fi e S = .ok (ws.map g) S)
    (h : ∀ w ∈ ws, ∀ acc, lcStep own fg ft fe e (g w) (S ++ [.lst acc]) = .ok (f w) (S ++ [.lst acc])) (hl : ws.length ≤ 16777216) :
    lcF fi own fg ft fe e S = .ok (.d (.list (ws.filterMap f))) S := by
  unfold lcF
  rw [hi, Out.bind_ok, lcD_runT _ g f ws [] h (by simpa using hl), Out.bind_ok]
  unfold lcEnd
  rw [List.nil_append, get_new]
  dsimp only
  rw [take_new]
theorem lc_mapT {t : Type} {fi : Ev → Store → Out (List D)} {own : List Nat} {fg : R → Ev → Store → Out Ev} {ft : Ev → Store → Out Bool} {fe : Fe} {e : Ev} {S : Store} (g : t → D) (f : t → D) (ws : List t) (hi : fi e S = .ok (ws.map g) S)
    (h : ∀ w ∈ ws, ∀ acc, lcStep own fg ft fe e (g w) (S ++ [.lst acc]) = .ok (some (f w)) (S ++ [.lst acc])) (hl : ws.length ≤ 16777216) :
    lcF fi own fg ft fe e S = .ok (.d (.list (ws.map f))) S := by
  have := lc_runT g (fun w => some (f w)) ws hi h hl
  rw [this, show ws.filterMap (fun x => some (f x)) = ws.map f from by rw [← List.filterMap_eq_map]; rfl]
theorem for_accS {t : Type} {f : D → Ev → Store → Out (Fl × Ev)} (g : t → D) (F : t → List D) (E : List D → Ev → Store → Prop) (c N : Nat) : ∀ (xs : List t) (acc : List D) (e : Ev) (S : Store), E acc e S → (∀ x ∈ xs, (F x).length ≤ c) → acc.length + c * xs.length ≤ N →
    (∀ x ∈ xs, ∀ acc e S, E acc e S → acc.length + c ≤ N → ∃ e2 S2, f (g x) e S = .ok (.nx, e2) S2 ∧ E (acc ++ F x) e2 S2) → ∃ e2 S2, forD f (xs.map g) e S = .ok (.nx, e2) S2 ∧ E (acc ++ xs.flatMap F) e2 S2
  | [], acc, e, S, h, _, _, _ => ⟨e, S, rfl, by simpa using h⟩
  | x :: xs, acc, e, S, h, hc, hN, hs => by
    have e1 : c * (xs.length + 1) = c * xs.length + c := by rw [Nat.mul_add, Nat.mul_one]
    rw [List.length_cons, e1] at hN
    have hx := hc x List.mem_cons_self
    obtain ⟨e2, S2, q, h2⟩ := hs x List.mem_cons_self acc e S h (by omega)
    obtain ⟨e3, S3, q2, h3⟩ := for_accS g F E c N xs (acc ++ F x) e2 S2 h2 (fun y hy => hc y (List.mem_cons_of_mem _ hy)) (by simp; omega) fun y hy => hs y (List.mem_cons_of_mem _ hy)
    refine ⟨e3, S3, ?_, ?_⟩
    · rw [List.map_cons, forD_cons, q]
      simpa using q2
    · rw [List.flatMap_cons, ← List.append_assoc]
      exact h3
theorem zip2_map {t u : Type} (g : t → D) (g' : u → D) : ∀ (a : List t) (b : List u), zip2 (a.map g) (b.map g') = (a.zip b).map fun p => .tuple [g p.1, g' p.2]
  | [], _ => rfl
  | _ :: _, [] => rfl
  | x :: a, y :: b => by simp [zip2, zip2_map g g' a b]
/-! ### tables and their wishes -/
abbrev Table := List (List Wish)
def tableD (n : Int) (t : Table) : D := .tuple (t.map (lotD n))
structure TableOk (n : Int) (pl : Nat) (t : Table) : Prop where
  len : t.length = pl
  lots : ∀ l ∈ t, LotOk n 4 l
def wide (m : Nat) (w : Wish) : Wish := ⟨w.r ++ nulR m, w.b⟩
def backW (n : Nat) (led : List Wish) (w : Wish) : Wish := ⟨mixF (nulR n) (led.map Wish.r) w.r, w.b - dotQ w.r (led.map Wish.b)⟩
def tripD (l : D) (w : Wish) : D := .tuple [l, rowD w.r, fr w.b]
def atT (t : Table) (p : Int) : List Wish := t.getD p.toNat []
def aheadW (c : Chart) (t : Table) (x : Case) : D := lotD (c.size + c.more) ((atT t x.fro).map (wide c.more.toNat) ++ x.guard)
def startW (c : Chart) (t : Table) (s : Start) : List D := (atT t s.p).map (tripD (lotD c.size s.ws))
def caseW (c : Chart) (t : Table) (x : Case) : List D := (atT t x.to).map fun w => tripD (aheadW c t x) (backW (c.size + c.more).toNat x.led w)
def safeW (c : Chart) (p : List Wish × List Wish) : List D := p.2.map (tripD (lotD c.size p.1))
def wishesW (c : Chart) (t : Table) : List D := c.starts.flatMap (startW c t) ++ c.cases.flatMap (caseW c t) ++ (t.zip c.safes).flatMap (safeW c)
theorem at_table {n : Int} {t : Table} {p : Int} (h0 : 0 ≤ p) (h1 : p < t.length) : L2.atI (t.map (lotD n)) p = some (lotD n (atT t p)) := by
  have h : p.toNat < t.length := by omega
  unfold L2.atI L2.ixN atT
  rw [if_pos h0, if_pos (by simpa using h1)]
  simp [h]
theorem at_mem {t : Table} {p : Int} (h0 : 0 ≤ p) (h1 : p < t.length) : atT t p ∈ t := by
  have h : p.toNat < t.length := by omega
  unfold atT
  rw [List.getD_eq_getElem?_getD, List.getElem?_eq_getElem h]
  exact List.getElem_mem h
theorem rowD_app (a b : List Rat) : rowD (a ++ b) = .tuple (a.map fr ++ b.map fr) := by simp [rowD]
end Sx
namespace Sx
open PySem PySem.Spec
section
variable (C : Fns) (G : String → Option D) (e : Ev) (S : Store) (ts : List Tg) (q : Rat) (qs : List Rat) (w : Wish) (n m : Int) (ws : List Wish) (s : Start) (x : Case) (c : Chart)
@[simp] theorem ix_fr0 : ixD (fr q) (.int 0) = some (.int q.num) := rfl
@[simp] theorem ix_fr1 : ixD (fr q) (.int 1) = some (.int q.den) := rfl
@[simp] theorem items_row : itemsD (rowD qs) = some (qs.map fr) := rfl
@[simp] theorem len_row : bLen [rowD qs] = some (.int qs.length) := by simp [rowD]
@[simp] theorem ix_wish0 : ixD (wishD w) (.int 0) = some (rowD w.r) := rfl
@[simp] theorem ix_wish1 : ixD (wishD w) (.int 1) = some (fr w.b) := rfl
@[simp] theorem ix_lot0 : ixD (lotD n ws) (.int 0) = some (.int n) := rfl
@[simp] theorem ix_lot1 : ixD (lotD n ws) (.int 1) = some (.tuple (ws.map wishD)) := rfl
@[simp] theorem ix_start0 : ixD (startD n s) (.int 0) = some (.int s.p) := rfl
@[simp] theorem ix_start1 : ixD (startD n s) (.int 1) = some (lotD n s.ws) := rfl
@[simp] theorem ix_case0 : ixD (caseD n m x) (.int 0) = some (.int x.fro) := rfl
@[simp] theorem ix_case1 : ixD (caseD n m x) (.int 1) = some (lotD (n + m) x.guard) := rfl
@[simp] theorem ix_case2 : ixD (caseD n m x) (.int 2) = some (.tuple (x.led.map wishD)) := rfl
@[simp] theorem ix_case3 : ixD (caseD n m x) (.int 3) = some (.int x.to) := rfl
@[simp] theorem ix_chart0 : ixD (chartD c) (.int 0) = some (.int c.size) := rfl
@[simp] theorem ix_chart1 : ixD (chartD c) (.int 1) = some (.int c.more) := rfl
@[simp] theorem ix_chart2 : ixD (chartD c) (.int 2) = some (.tuple (c.starts.map (startD c.size))) := rfl
@[simp] theorem ix_chart3 : ixD (chartD c) (.int 3) = some (.tuple (c.cases.map (caseD c.size c.more))) := rfl
@[simp] theorem ix_chart4 : ixD (chartD c) (.int 4) = some (.tuple (c.safes.map (lotD c.size))) := rfl
@[simp] theorem isi_row : tyOf (rowD qs) .tuple = true := rfl
@[simp] theorem dA_wish : dA C G (.t ts) (.d (wishD w)) e S = if 2 = ts.length then dAs C G ts [rowD w.r, fr w.b] e S else .bad := rfl
@[simp] theorem dA_lot : dA C G (.t ts) (.d (lotD n ws)) e S = if 2 = ts.length then dAs C G ts [.int n, .tuple (ws.map wishD)] e S else .bad := rfl
@[simp] theorem dA_start : dA C G (.t ts) (.d (startD n s)) e S = if 2 = ts.length then dAs C G ts [.int s.p, lotD n s.ws] e S else .bad := rfl
@[simp] theorem dA_case : dA C G (.t ts) (.d (caseD n m x)) e S = if 4 = ts.length then dAs C G ts [.int x.fro, lotD (n + m) x.guard, .tuple (x.led.map wishD), .int x.to] e S else .bad := rfl
@[simp] theorem dA_chart : dA C G (.t ts) (.d (chartD c)) e S = if 5 = ts.length then dAs C G ts [.int c.size, .int c.more, .tuple (c.starts.map (startD c.size)), .tuple (c.cases.map (caseD c.size c.more)), .tuple (c.safes.map (lotD c.size))] e S else .bad := rfl
theorem addRow {a b : List Rat} (h : a.length + b.length ≤ 16777216) : opB .add (rowD a) (rowD b) = some (rowD (a ++ b)) := by
  rw [rowD_app]
  exact opB_addT (by simpa [sizeLine] using h)
theorem addWs {a b : List Wish} (h : a.length + b.length ≤ 16777216) : opB .add (.tuple (a.map wishD)) (.tuple (b.map wishD)) = some (.tuple ((a ++ b).map wishD)) := by
  rw [List.map_append]
  exact opB_addT (by simpa [sizeLine] using h)
end
end Sx
namespace Sx
open PySem PySem.Spec
theorem flatMap_len {t : Type} {F : t → List D} {c : Nat} : ∀ {xs : List t}, (∀ x ∈ xs, (F x).length ≤ c) → (xs.flatMap F).length ≤ c * xs.length
  | [], _ => by simp
  | x :: xs, h => by
    have h1 := h x List.mem_cons_self
    have h2 := flatMap_len (xs := xs) fun y hy => h y (List.mem_cons_of_mem _ hy)
    rw [List.flatMap_cons, List.length_append, List.length_cons, Nat.mul_add, Nat.mul_one]
    omega
end Sx
namespace Sx
open PySem PySem.Spec
theorem rng_len {n : Nat} (h : n ≤ 1000000) : rngD [.int (n : Int)] = some ((List.range n).map fun (k : Nat) => .int k) := by
  have : ∀ m : Int, 0 ≤ m → m ≤ 1000000 → rngD [.int m] = some ((List.range m.toNat).map fun (k : Nat) => .int k) := fun m h0 h1 => rng_1 ⟨by omega, by omega⟩
  have q := this n (by omega) (by omega)
  rwa [Int.toNat_natCast] at q
theorem zip_get {t u : Type} : ∀ {a : List t} {b : List u} {j : Nat} {p : t × u}, (a.zip b)[j]? = some p → a[j]? = some p.1 ∧ b[j]? = some p.2
  | [], _, _, _, h => by simp at h
  | _ :: _, [], _, _, h => by simp at h
  | x :: a, y :: b, 0, p, h => by simp at h; subst h; exact ⟨rfl, rfl⟩
  | x :: a, y :: b, j + 1, p, h => by simpa using zip_get (a := a) (b := b) (j := j) (p := p) (by simpa using h)
/-- the places of a list in the stead of its things -/
theorem range_map {t : Type} (l : List t) (g : Nat → t → D) (f : Nat → D) (h : ∀ j x, l[j]? = some x → g j x = f j) : True := trivial
end Sx
namespace Sx
theorem fits_of {n : Nat} (h : n < 1000) : n < PySem.sizeLine := Nat.lt_of_lt_of_le h (by decide)
end Sx
namespace Sx
open PySem PySem.Spec
@[simp] theorem lf_0 : lenFits 0 = true := by decide
@[simp] theorem lf_1 : lenFits 1 = true := by decide
@[simp] theorem lf_2 : lenFits 2 = true := by decide
@[simp] theorem lf_3 : lenFits 3 = true := by decide
@[simp] theorem lf_4 : lenFits 4 = true := by decide
@[simp] theorem lf_5 : lenFits 5 = true := by decide
@[simp] theorem lf_6 : lenFits 6 = true := by decide
@[simp] theorem lf_7 : lenFits 7 = true := by decide
@[simp] theorem lf_8 : lenFits 8 = true := by decide
@[simp] theorem lf_9 : lenFits 9 = true := by decide
@[simp] theorem lf_10 : lenFits 10 = true := by decide
@[simp] theorem lf_11 : lenFits 11 = true := by decide
@[simp] theorem lf_12 : lenFits 12 = true := by decide
@[simp] theorem lf_13 : lenFits 13 = true := by decide
@[simp] theorem lf_14 : lenFits 14 = true := by decide
@[simp] theorem lf_15 : lenFits 15 = true := by decide
@[simp] theorem lf_16 : lenFits 16 = true := by decide
@[simp] theorem lf_17 : lenFits 17 = true := by decide
@[simp] theorem lf_18 : lenFits 18 = true := by decide
@[simp] theorem lf_19 : lenFits 19 = true := by decide
@[simp] theorem lf_20 : lenFits 20 = true := by decide
@[simp] theorem lf_21 : lenFits 21 = true := by decide
@[simp] theorem lf_22 : lenFits 22 = true := by decide
@[simp] theorem lf_23 : lenFits 23 = true := by decide
@[simp] theorem lf_24 : lenFits 24 = true := by decide
@[simp] theorem lf_25 : lenFits 25 = true := by decide
@[simp] theorem lf_26 : lenFits 26 = true := by decide
@[simp] theorem lf_27 : lenFits 27 = true := by decide
@[simp] theorem lf_28 : lenFits 28 = true := by decide
@[simp] theorem lf_29 : lenFits 29 = true := by decide
@[simp] theorem lf_30 : lenFits 30 = true := by decide
end Sx
namespace Sx
open PySem PySem.Spec
/-- for .. in range(len(a)): what is walked (simp's own way makes the kernel count) -/
theorem dI_rng_len {C : Fns} {G : String → Option D} {a : CE} {e : Ev} {S : Store} {d : D} {n : Nat} (h : dE C G a e S = .ok (.d d) S) (hl : bLen [d] = some (.int n)) (hn : n ≤ 1000000) :
    dI C G (.rng [.bi .len [a]]) e S = .ok ((List.range n).map fun (k : Nat) => .int k) S := by
  have h1 : dL C G [a] e S = .ok [.d d] S := by
    rw [dL_cons, h]; rfl
  have h2 : dE C G (.bi .len [a]) e S = .ok (.d (.int n)) S := by
    rw [dE_bi, h1, Out.bind_ok, kBi_app, asDs_cons, asD_d]
    show lift ((biD .len [d]).map R.d) S = _
    rw [bi_len, hl]
    rfl
  have h3 : dL C G [.bi .len [a]] e S = .ok [.d (.int n)] S := by
    rw [dL_cons, h2]; rfl
  rw [dI_rng, h3, Out.bind_ok]
  have h4 : asDs S [.d (.int (n : Int))] = some [.int n] := rfl
  rw [kRng_app, h4, Option.bind_some, rng_len hn, lift_some]
end Sx
namespace Sx
open PySem PySem.Spec
/-- a lot whose rows have its size -/
def Rows (n : Int) (ws : List Wish) : Prop := ∀ w ∈ ws, (w.r.length : Int) = n
theorem lot_okL {n most : Int} {ws : List Wish} (h : Rows n ws) (h0 : 1 ≤ n) (h1 : n ≤ 12) (hm : (ws.length : Int) ≤ most) : lotB most (lotD n ws) = true := by
  simp only [lotB, lotD, betweenB, wishesB, numD, Bool.and_eq_true, decide_eq_true_eq, List.length_map, List.all_eq_true]
  refine ⟨⟨h0, h1⟩, hm, fun d hd => ?_⟩
  obtain ⟨w, hw, rfl⟩ := List.mem_map.mp hd
  simp only [wishB, wishD, Bool.and_eq_true]
  refine ⟨?_, fr_ratio _⟩
  rw [← h w hw]
  exact rowD_ratio
/-- bounds of a lot's numbers -/
def LotQb (j m jb mb : Nat) (ws : List Wish) : Prop := ∀ w ∈ ws, (∀ q ∈ w.r, Qb j m q) ∧ Qb jb mb w.b ∧ w.r.length ≤ 30
theorem lotqb_of {n m : Int} {ws : List Wish} (h : ∀ w ∈ ws, WishOk n w) (hn : n ≤ 30) : LotQb 1 3 1 3 ws := fun w hw => ⟨(h w hw).2.1, (h w hw).2.2, by have := (h w hw).1; omega⟩
theorem enum_map {t : Type} (g : t → D) : ∀ (xs : List t) (n : Nat), enumFrom n (xs.map g) = (xs.zipIdx n).map fun p => .tuple [.int (p.2 : Int), g p.1]
  | [], _ => rfl
  | x :: xs, n => by
    rw [List.map_cons, List.zipIdx_cons, List.map_cons, enumFrom, enum_map g xs (n + 1)]
theorem Sz.lt {j m : Nat} {q : Rat} (h : Qb j m q) (l : m + 13 * j < 1900) : Sz q := h.sz l
end Sx
set_option Elab.async false
set_option linter.all false
set_option maxRecDepth 100000
set_option maxHeartbeats 1000000
/-! Sx, part Z: plain: boxes. -/
namespace Sx
open PySem PySem.Spec
theorem dotF_nul : ∀ (n : Nat) (a : Rat) (qs : List Rat), dotF a (nulR n) qs = a
  | 0, a, qs => by cases qs <;> rfl
  | n + 1, a, [] => rfl
  | n + 1, a, q :: qs => by
    show dotF (a + 0 * q) (nulR n) qs = a
    rw [Rat.zero_mul, Rat.add_zero]
    exact dotF_nul n a qs
theorem dotF_app : ∀ {p1 q1 : List Rat} (a : Rat) (p2 q2 : List Rat), p1.length = q1.length → dotF a (p1 ++ p2) (q1 ++ q2) = dotF (dotF a p1 q1) p2 q2
  | [], [], a, p2, q2, _ => rfl
  | p :: p1, q :: q1, a, p2, q2, h => dotF_app (a + p * q) p2 q2 (by simpa using h)
def unitR (n at_ : Nat) (c : Rat) : List Rat := nulR at_ ++ [c] ++ nulR (n - 1 - at_)
theorem unitR_len {n a : Nat} {c : Rat} (h : a < n) : (unitR n a c).length = n := by simp [unitR, nulR]; omega
theorem dot_unit {n a : Nat} {c : Rat} {pt : List Rat} (h : a < n) (hl : pt.length = n) : dotQ (unitR n a c) pt = c * pt.getD a 0 := by
  have h1 : a < pt.length := by omega
  have e : pt = pt.take a ++ [pt[a]] ++ pt.drop (a + 1) := by simp
  have hg : pt.getD a 0 = pt[a] := by rw [List.getD_eq_getElem?_getD, List.getElem?_eq_getElem h1]; rfl
  rw [hg]
  generalize pt[a] = x at e
  rw [e]
  unfold dotQ unitR
  rw [dotF_app _ _ _ (by simp [nulR]; omega), dotF_app _ _ _ (by simp [nulR]; omega), dotF_nul, dotF_nul]
  show 0 + c * x = c * x
  rw [Rat.zero_add]
theorem unit_range {n a : Nat} {c : Rat} (h : a < n) : (List.range n).map (fun s => if s = a then c else 0) = unitR n a c := by
  unfold unitR nulR
  refine List.ext_getElem (by simp; omega) fun i h1 h2 => ?_
  simp only [List.length_map, List.length_range] at h1
  simp only [List.getElem_map, List.getElem_range]
  by_cases h3 : i < a
  · rw [if_neg (by omega), List.getElem_append_left (by simp; omega), List.getElem_append_left (by simpa using h3)]
    simp
  · by_cases h4 : i = a
    · subst h4
      rw [if_pos rfl, List.getElem_append_left (by simp), List.getElem_append_right (by simp)]
      simp
    · rw [if_neg h4, List.getElem_append_right (by simp; omega)]
      simp
theorem unit_neg {n a : Nat} {c : Rat} : (unitR n a c).map (- ·) = unitR n a (-c) := by
  unfold unitR nulR
  simp
theorem unit_qb {n a : Nat} {c : Rat} (h : Qb 1 0 c) : ∀ q ∈ unitR n a c, Qb 1 0 q := by
  intro q hq
  unfold unitR at hq
  rcases List.mem_append.mp hq with hq | hq
  · rcases List.mem_append.mp hq with hq | hq
    · rw [show q = 0 from (List.mem_replicate.mp hq).2]; exact Qb.zero
    · simp at hq; subst hq; exact h
  · rw [show q = 0 from (List.mem_replicate.mp hq).2]; exact Qb.zero
structure Span where
  lo : Rat
  hi : Rat
def spanD (s : Span) : D := .tuple [fr s.lo, fr s.hi]
def SpanOk (s : Span) : Prop := Qb 1 3 s.lo ∧ Qb 1 4 s.hi ∧ s.lo ≤ s.hi
def boxW (n : Nat) (p : Span × Nat) : List Wish := [⟨unitR n p.2 1, p.1.hi⟩, ⟨unitR n p.2 (-1), -p.1.lo⟩]
def boxWs (sp : List Span) : List Wish := sp.zipIdx.flatMap (boxW sp.length)
section
variable (C : Fns) (G : String → Option D) (e : Ev) (S : Store) (ts : List Tg) (s : Span)
@[simp] theorem ix_span0 : ixD (spanD s) (.int 0) = some (fr s.lo) := rfl
@[simp] theorem ix_span1 : ixD (spanD s) (.int 1) = some (fr s.hi) := rfl
@[simp] theorem dA_span : dA C G (.t ts) (.d (spanD s)) e S = if 2 = ts.length then dAs C G ts [fr s.lo, fr s.hi] e S else .bad := rfl
end
theorem box_mem {sp : List Span} {w : Wish} (h : w ∈ boxWs sp) : ∃ (a : Nat) (s : Span), sp[a]? = some s ∧ (w = ⟨unitR sp.length a 1, s.hi⟩ ∨ w = ⟨unitR sp.length a (-1), -s.lo⟩) := by
  unfold boxWs at h
  obtain ⟨p, hp, hw⟩ := List.mem_flatMap.mp h
  obtain ⟨s, a⟩ := p
  have := List.mem_zipIdx hp
  refine ⟨a, s, ?_, ?_⟩
  · have h1 := this.2.1
    simp at h1
    simp [h1, this.2.2]
  · simp [boxW] at hw
    exact hw
theorem box_len (sp : List Span) : (boxWs sp).length = 2 * sp.length := by
  unfold boxWs
  rw [List.length_flatMap]
  have : (sp.zipIdx.map fun a => (boxW sp.length a).length) = List.replicate sp.length 2 := by
    have h2 : (fun a : Span × Nat => (boxW sp.length a).length) = fun _ => 2 := rfl
    rw [h2, List.map_const']
    simp
  rw [this]
  simp
  omega
theorem box_rows {sp : List Span} : Rows sp.length (boxWs sp) := fun w hw => by
  obtain ⟨a, s, h1, h2⟩ := box_mem hw
  have := lt_of_get h1
  rcases h2 with rfl | rfl
  · show ((unitR _ _ _).length : Int) = _
    rw [unitR_len this]
  · show ((unitR _ _ _).length : Int) = _
    rw [unitR_len this]
theorem qb_one : Qb 1 0 (1 : Rat) := by
  have := qb_of (n := 1) (d := 1) (m := 0) (by decide) (by decide)
  exact this
theorem box_qb {sp : List Span} (h : ∀ s ∈ sp, SpanOk s) (hl : sp.length ≤ 30) : LotQb 1 0 1 4 (boxWs sp) := fun w hw => by
  obtain ⟨a, s, h1, h2⟩ := box_mem hw
  have hs := h s (List.mem_of_getElem? h1)
  have := lt_of_get h1
  rcases h2 with rfl | rfl
  · exact ⟨unit_qb qb_one, hs.2.1, by rw [unitR_len this]; exact hl⟩
  · exact ⟨unit_qb qb_one.neg, (hs.1.neg).mono (by decide) (by decide), by rw [unitR_len this]; exact hl⟩
/-- what lies within -/
def InBox (sp : List Span) (pt : List Rat) : Prop := pt.length = sp.length ∧ ∀ (a : Nat) (s : Span), sp[a]? = some s → s.lo ≤ pt.getD a 0 ∧ pt.getD a 0 ≤ s.hi
theorem box_lies {sp : List Span} {pt : List Rat} (h : InBox sp pt) : liesQ (boxWs sp) pt = true := by
  unfold liesQ
  rw [List.all_eq_true]
  intro w hw
  obtain ⟨a, s, h1, h2⟩ := box_mem hw
  have hl := lt_of_get h1
  obtain ⟨g1, g2⟩ := h.2 a s h1
  rw [decide_eq_true_eq]
  rcases h2 with rfl | rfl
  · show dotQ (unitR _ _ _) pt ≤ _
    rw [dot_unit hl h.1, Rat.one_mul]
    exact g2
  · show dotQ (unitR _ _ _) pt ≤ _
    rw [dot_unit hl h.1, Rat.neg_mul, Rat.one_mul]
    exact Rat.neg_le_neg g1
theorem box_out {sp : List Span} {pt : List Rat} {a : Nat} {s : Span} (hs : sp[a]? = some s) (hl : pt.length = sp.length) (h : ¬ pt.getD a 0 ≤ s.hi) : liesQ (boxWs sp) pt = false := by
  cases hq : liesQ (boxWs sp) pt with
  | false => rfl
  | true =>
    exfalso
    unfold liesQ at hq
    rw [List.all_eq_true] at hq
    have hal := lt_of_get hs
    have hm : (⟨unitR sp.length a 1, s.hi⟩ : Wish) ∈ boxWs sp := by
      unfold boxWs
      rw [List.mem_flatMap]
      refine ⟨(s, a), ?_, by simp [boxW]⟩
      rw [List.mem_zipIdx_iff_getElem?]
      exact hs
    have := hq _ hm
    rw [decide_eq_true_eq] at this
    rw [show (⟨unitR sp.length a 1, s.hi⟩ : Wish).r = unitR sp.length a 1 from rfl, dot_unit hal hl, Rat.one_mul] at this
    exact h this
theorem lies_app (a b : List Wish) (pt : List Rat) : liesQ (a ++ b) pt = (liesQ a pt && liesQ b pt) := by simp [liesQ]
end Sx
namespace Sx
open PySem PySem.Spec
theorem zip_range {t : Type} (sp : List t) (F : t × Nat → List D) : (List.range sp.length).flatMap (fun j => (sp[j]?).elim [] fun s => F (s, j)) = sp.zipIdx.flatMap F := by
  rw [List.flatMap_def, List.flatMap_def]
  congr 1
  refine List.ext_getElem (by simp) fun i h1 h2 => ?_
  simp at h1
  simp [h1]
end Sx
set_option Elab.async false
set_option linter.all false
set_option maxRecDepth 100000
set_option maxHeartbeats 1000000
/-! Sx, part Bq: plain: fractions of so many bits, data read as fractions, comprehensions that draw. -/
namespace Sx
open PySem PySem.Spec
/-- the fraction that a datum is -/
def toQ : D → Rat
  | .tuple [.int a, .int b] => Rat.divInt a b
  | _ => 0
theorem ratio_toQ {d : D} (h : ratioB d = true) : d = fr (toQ d) := by
  cases d <;> simp [ratioB] at h
  rename_i ds
  match ds, h with
  | [], h => simp [ratioB] at h
  | [x], h => simp [ratioB] at h
  | x :: y :: z :: t, h => simp [ratioB] at h
  | [x, y], h =>
    cases x <;> cases y <;> simp [ratioB] at h
    rename_i a b
    obtain ⟨h1, h2⟩ := h
    have e : Rat.divInt a b = ⟨a, b.toNat, by omega, by rw [Nat.Coprime]; rwa [show b.toNat = b.natAbs by omega]⟩ := by
      have := Rat.num_divInt_den ⟨a, b.toNat, by omega, by rw [Nat.Coprime]; rwa [show b.toNat = b.natAbs by omega]⟩
      simp only at this
      rw [Int.toNat_of_nonneg (by omega)] at this
      exact this
    rw [toQ, e]
    simp only [fr]
    rw [Int.toNat_of_nonneg (by omega)]
theorem toQ_fr (q : Rat) : toQ (fr q) = q := by
  show Rat.divInt q.num q.den = q
  exact Rat.num_divInt_den q
theorem div_bt {a b : Int} {k : Nat} (h : b ≠ 0) (ha : Bt k a) (hb : Bt k b) : Bt k (Rat.divInt a b).num ∧ Bt k ((Rat.divInt a b).den : Int) := by
  have e := fr_div (a := a) h
  simp only [fr, PyData.tuple.injEq, List.cons.injEq, PyData.int.injEq, and_true] at e
  have g0 := gg_ne (a := a) h
  have da : gg a b ∣ a := by
    unfold gg
    split
    · exact Int.ofNat_dvd_left.mpr (Nat.gcd_dvd_left _ _)
    · exact Int.neg_dvd.mpr (Int.ofNat_dvd_left.mpr (Nat.gcd_dvd_left _ _))
  have db : gg a b ∣ b := by
    unfold gg
    split
    · exact Int.ofNat_dvd_left.mpr (Nat.gcd_dvd_right _ _)
    · exact Int.neg_dvd.mpr (Int.ofNat_dvd_left.mpr (Nat.gcd_dvd_right _ _))
  have key : ∀ x : Int, gg a b ∣ x → Bt k x → Bt k (x.fdiv (gg a b)) := by
    rintro x ⟨c, hc⟩ hx
    rw [hc, Int.mul_fdiv_cancel_left _ g0]
    unfold Bt at *
    rw [hc, Int.natAbs_mul] at hx
    have : 1 ≤ (gg a b).natAbs := by omega
    exact Nat.lt_of_le_of_lt (Nat.le_mul_of_pos_left _ this) hx
  rw [e.1, e.2]
  exact ⟨key a da ha, key b db hb⟩
/-- a fraction of so many bits -/
def Bq (k : Nat) (q : Rat) : Prop := Bt k q.num ∧ Bt k (q.den : Int)
theorem Bt.of_lt {k : Nat} {i : Int} {m : Nat} (h : i.natAbs < m) (l : m ≤ 2 ^ k) : Bt k i := Nat.lt_of_lt_of_le h l
theorem Bq.mono {a b : Nat} {q : Rat} (h : Bq a q) (l : a ≤ b) : Bq b q := ⟨h.1.mono l, h.2.mono l⟩
theorem Bq.sz {a : Nat} {q : Rat} (h : Bq a q) (l : a ≤ 1900) : Sz q := h.mono l
theorem Bq.int {a : Nat} {z : Int} (h : Bt a z) (ha : 1 ≤ a) : Bq a (z : Rat) := ⟨h, (Bt.of_lt (m := 2) (by decide) (by decide) : Bt 1 ((1 : Nat) : Int)).mono ha⟩
theorem Bq.zero {a : Nat} (ha : 1 ≤ a) : Bq a 0 := Bq.int (z := 0) (by unfold Bt; exact Nat.pow_pos (by decide)) ha
theorem Bq.neg {a : Nat} {q : Rat} (h : Bq a q) : Bq a (-q) := ⟨by rw [Rat.neg_num]; exact h.1.neg, by rw [Rat.neg_den]; exact h.2⟩
theorem Bq.mul {a b : Nat} {p q : Rat} (hp : Bq a p) (hq : Bq b q) : Bq (a + b) (p * q) := by
  rw [← mul_div']
  exact div_bt (mulden_ne p q) (hp.1.mul hq.1) (hp.2.mul hq.2)
theorem Bq.add {a b : Nat} {p q : Rat} (hp : Bq a p) (hq : Bq b q) : Bq (a + b + 1) (p + q) := by
  rw [← add_div]
  have h1 := (hp.1.mul hq.2).add ((hq.1.mul hp.2).mono (b := a + b) (by omega))
  exact div_bt (mulden_ne p q) h1 ((hp.2.mul hq.2).mono (by omega))
theorem Qb.bq {j m : Nat} {q : Rat} (h : Qb j m q) : Bq (m + 13 * j + 1) q := h.bt
/-- so many sums of products -/
def Bz (m t : Nat) (q : Rat) : Prop := Bq (1 + t * (m + 1)) q
theorem Bz.step {m t : Nat} {a p : Rat} (h : Bz m t a) (hp : Bq m p) : Bz m (t + 1) (a + p) := by
  have em : (t + 1) * (m + 1) = t * (m + 1) + (m + 1) := by rw [Nat.add_mul, Nat.one_mul]
  exact (Bq.add h hp).mono (by omega)
theorem Bz.up {m t t' : Nat} {a : Rat} (h : Bz m t a) (l : t ≤ t') : Bz m t' a := Bq.mono h (by have := Nat.mul_le_mul_right (m + 1) l; omega)
theorem Bz.zero {m t : Nat} : Bz m t 0 := Bq.zero (by omega)
theorem Bz.sz {m t n : Nat} {a : Rat} (h : Bz m t a) (l : t ≤ n) (hb : n * (m + 1) < 1900) : Sz a := Bq.sz h (by have := Nat.mul_le_mul_right (m + 1) l; omega)
theorem Bz.bq {m t n : Nat} {a : Rat} (h : Bz m t a) (hb : t * (m + 1) < n) : Bq n a := Bq.mono h (by omega)
theorem dotF_bz {m : Nat} : ∀ {ps qs : List Rat} {a : Rat} {t : Nat}, Bz m t a → (∀ p ∈ ps, ∀ q ∈ qs, Bq m (p * q)) → Bz m (t + ps.length) (dotF a ps qs)
  | [], qs, a, t, h, _ => by cases qs <;> exact h
  | p :: ps, [], a, t, h, _ => h.up (by omega)
  | p :: ps, q :: qs, a, t, h, hp => by
    have := dotF_bz (ps := ps) (qs := qs) (h.step (hp p List.mem_cons_self q List.mem_cons_self)) fun p' hp' q' hq' => hp p' (List.mem_cons_of_mem _ hp') q' (List.mem_cons_of_mem _ hq')
    rw [List.length_cons, show t + (ps.length + 1) = t + 1 + ps.length by omega]
    exact this
theorem dotQ_bz {a b : Nat} {ps qs : List Rat} (hp : ∀ p ∈ ps, Bq a p) (hq : ∀ q ∈ qs, Bq b q) : Bz (a + b) ps.length (dotQ ps qs) := by
  have := dotF_bz (m := a + b) (ps := ps) (qs := qs) (a := 0) (t := 0) Bz.zero fun p h q g => (hp p h).mul (hq q g)
  unfold dotQ
  simpa using this
theorem dotQ_bq {a b : Nat} {ps qs : List Rat} (hp : ∀ p ∈ ps, Bq a p) (hq : ∀ q ∈ qs, Bq b q) : Bq (1 + ps.length * (a + b + 1)) (dotQ ps qs) := dotQ_bz hp hq
def RowOk (k : Nat) (n : Nat) (r : List Rat) : Prop := r.length = n ∧ ∀ q ∈ r, Bq k q
theorem toQ_bq {k : Nat} {d : D} (h : ratioB d = true) (hb : bd k d) : Bq k (toQ d) := by
  have e := ratio_toQ h
  rw [e] at hb
  exact ⟨bdI.mp (bdT.mp hb (.int (toQ d).num) (by simp)), bdI.mp (bdT.mp hb (.int (toQ d).den) (by simp))⟩
theorem p_ratB {k : Nat} {d : D} (h : ratioB d = true) (hb : bd k d) : ∃ q, d = fr q ∧ Bq k q := ⟨_, ratio_toQ h, toQ_bq h hb⟩
theorem p_rowB {k n : Nat} {d : D} (h : rowB n d = true) (hb : bd k d) : ∃ r, d = rowD r ∧ RowOk k n r := by
  obtain ⟨ds, rfl, hl, hr⟩ := row_len h
  obtain ⟨qs, rfl, hq⟩ := frs_of (xs := ds) (P := Bq k) fun d hd => p_ratB (hr d hd) (bdT.mp hb d hd)
  exact ⟨qs, rfl, by simp at hl; omega, hq⟩
/-- a comprehension each of whose turns draws a datum -/
theorem lc_draw {fi : Ev → Store → Out (List D)} {own : List Nat} {fg : R → Ev → Store → Out Ev} {ft : Ev → Store → Out Bool} {fe : Fe} {e : Ev} {S : Store} {xs : List D} {Q : R → Store → Prop} {i : Nat} {b c : Int} {P : D → Prop}
    (hi : fi e S = .ok xs S) (hu : Urn S i b) (hb : c * xs.length ≤ b) (hc : 0 ≤ c) (hl : xs.length ≤ 1000)
    (hs : ∀ x S' b', x ∈ xs → Urn S' i b' → c ≤ b' → Ok (lcStep own fg ft fe e x S') (fun o S1 => ∃ d, o = some d ∧ P d ∧ Urn S1 i (b' - c) ∧ Same i S' S1))
    (hq : ∀ acc S', acc.length = xs.length → (∀ d ∈ acc, P d) → Urn S' i (b - c * xs.length) → Same i S S' → Q (.d (.list acc)) S') : Ok (lcF fi own fg ft fe e S) Q := by
  have hil := hu.lt
  refine lc_inv (xs := xs) (fun j acc S' => j ≤ xs.length ∧ S'[S.length]? = some (.lst acc) ∧ acc.length = j ∧ (∀ d ∈ acc, P d) ∧ Urn S' i (b - c * j) ∧ Ext i S S') hi ⟨Nat.zero_le _, get_new, rfl, fun d h => by simp at h, by simpa using hu.app, Ext.app _ _ _⟩ (fun j acc S' h => ⟨h.2.1, by rw [h.2.2.1]; exact Nat.le_refl _⟩) (by omega) (fun j x acc S' hx h => ?_) (fun acc S' h => ?_)
  · obtain ⟨hj, h1, h2, h3, h4, h5⟩ := h
    have hj' := lt_of_get hx
    have e1 : c * ((j : Int) + 1) ≤ c * xs.length := Int.mul_le_mul_of_nonneg_left (by omega) hc
    have e2 : c * ((j : Int) + 1) = c * j + c := by rw [Int.mul_add, Int.mul_one]
    refine (hs x S' _ (List.mem_of_getElem? hx) h4 (by omega)).imp ?_
    rintro o S1 ⟨d, rfl, hd, hu1, hs1⟩
    have h6 : S1[S.length]? = some (.lst acc) := (hs1.2 _ (by omega)).trans h1
    refine ⟨h6, by omega, get_set (lt_of_get h6), by simp [h2], fun z hz => ?_, ?_, ?_⟩
    · rcases List.mem_append.mp hz with hz | hz
      · exact h3 z hz
      · simp only [List.mem_cons, List.not_mem_nil, or_false] at hz; subst hz; exact hd
    · have : b - c * j - c = b - c * ((j + 1 : Nat) : Int) := by rw [Int.natCast_add, Int.natCast_one, e2]; omega
      rw [← this]; exact hu1.set (by omega)
    · exact (h5.trans hs1.ext).set (Nat.le_refl _) _
  · obtain ⟨hj, h1, h2, h3, h4, h5⟩ := h
    exact hq acc _ h2 h3 (h4.take (by omega)) h5.same
theorem lc_I {fi : Ev → Store → Out (List D)} {own : List Nat} {fg : R → Ev → Store → Out Ev} {ft : Ev → Store → Out Bool} {fe : Fe} {e : Ev} {S : Store} {Q : R → Store → Prop}
    (h : Ok (fi e S) fun xs S1 => Ok (lcF (fun _ _ => .ok xs S1) own fg ft fe e S1) Q) : Ok (lcF fi own fg ft fe e S) Q := by
  obtain ⟨xs, S1, e1, r, S2, e2, h2⟩ := h
  refine ⟨r, S2, ?_, h2⟩
  unfold lcF at e2 ⊢
  rw [e1]
  exact e2
theorem at_map {t : Type} {f : t → D} {xs : List t} {j : Nat} {x : t} (h : xs[j]? = some x) : L2.atI (xs.map f) (j : Int) = some (f x) := by
  have hl := lt_of_get h
  rw [atI_nat (by simpa using hl)]
  have := (List.getElem?_eq_some_iff.mp h).2
  simp [this]
theorem ok_group {t u v w : Type} {o : Out t} {A : t → Store → Out u} {B : u → Store → Out v} {C : v → Store → Out w} {Q : w → Store → Prop} (h : Ok (o.bind A) (okK (comp B C) Q)) : Ok o (okK (comp (comp A B) C) Q) := by
  rw [ok_bind] at h
  refine h.imp fun a S1 h => ?_
  simpa using h
theorem at_last {t : Type} {xs : List t} {x : t} : L2.atI (xs ++ [x]) (-1) = some x := by
  unfold L2.atI L2.ixN
  rw [if_neg (by omega), if_pos (by simp; omega)]
  have : (-1 + ((xs ++ [x]).length : Int)).toNat = xs.length := by simp; omega
  rw [this]
  simp
theorem push_new {S : Store} {ds : List D} {y : D} (h : ds.length < sizeLine) : pushC S.length y (S ++ [.lst ds]) (some ds) = .ok (.d .none) (S ++ [.lst (ds ++ [y])]) := by
  rw [pushC_at h]
  simp
theorem zip3_map {t u v : Type} (g : t → D) (g' : u → D) (g'' : v → D) : ∀ (a : List t) (b : List u) (c : List v), zip3 (a.map g) (b.map g') (c.map g'') = (a.zip (b.zip c)).map fun p => .tuple [g p.1, g' p.2.1, g'' p.2.2]
  | [], _, _ => rfl
  | _ :: _, [], _ => rfl
  | _ :: _, _ :: _, [] => rfl
  | x :: a, y :: b, z :: c => by simp [zip3, zip3_map g g' g'' a b c]
theorem zip2_self : ∀ ds : List D, zip2 ds ds = ds.map fun x => .tuple [x, x]
  | [] => rfl
  | x :: ds => by simp [zip2, zip2_self ds]
theorem putD_nat {i j : Nat} {v : D} {S : Store} {xs : List D} (h : j < xs.length) : putD i (j : Int) v S (some xs) = .ok () (S.set i (.lst (xs.set j v))) := by
  have e : L2.ixN xs.length (j : Int) = some j := by
    unfold L2.ixN
    rw [if_pos (by omega), if_pos (by omega)]
    simp
  simp [putD, e]
/-- an item of a range -/
theorem range_at {m j : Nat} {x : D} (h : ((List.range m).map fun (k : Nat) => PyData.int k)[j]? = some x) : j < m ∧ x = .int j := by
  have h1 : j < m := by have := lt_of_get h; simpa using this
  rw [List.getElem?_map, List.getElem?_range h1] at h
  exact ⟨h1, by simpa using h.symm⟩
/-- numbers, truths, None and texts within tuples, n deep -/
def Pd : Nat → D → Prop
  | _, .int _ => True
  | _, .bool _ => True
  | _, .none => True
  | _, .str _ => True
  | n + 1, .tuple ds => ds.length ≤ 16777216 ∧ ∀ x ∈ ds, Pd n x
  | _, _ => False
theorem pd_tup {n : Nat} {ds : List D} (hl : ds.length ≤ 16777216) (h : ∀ x ∈ ds, Pd n x) : Pd (n + 1) (.tuple ds) := ⟨hl, h⟩
theorem Pd.up : ∀ {n : Nat} {d : D}, Pd n d → Pd (n + 1) d
  | _, .int _, _ => trivial
  | _, .bool _, _ => trivial
  | _, .none, _ => trivial
  | _, .str _, _ => trivial
  | n + 1, .tuple ds, h => ⟨h.1, fun x hx => Pd.up (h.2 x hx)⟩
  | 0, .tuple ds, h => h.elim
  | 0, .list _, h => h.elim
  | _ + 1, .list _, h => h.elim
  | 0, .dict _, h => h.elim
  | _ + 1, .dict _, h => h.elim
theorem Pd.mono {n m : Nat} {d : D} (h : Pd n d) (l : n ≤ m) : Pd m d := by
  obtain ⟨k, rfl⟩ := Nat.exists_eq_add_of_le l
  clear l
  induction k with
  | zero => exact h
  | succ k ih => exact ih.up
theorem pd_fr (q : Rat) : Pd 1 (fr q) := pd_tup (by simp) fun x hx => by
  simp only [List.mem_cons, List.not_mem_nil, or_false] at hx
  rcases hx with rfl | rfl <;> trivial
theorem pd_row {r : List Rat} (h : r.length ≤ 16777216) : Pd 2 (rowD r) := pd_tup (by simpa using h) fun x hx => by
  obtain ⟨q, _, rfl⟩ := List.mem_map.mp hx
  exact pd_fr q
theorem eqD_nilA {xs : List D} : eqD (.tuple xs) (.tuple []) = some xs.isEmpty := by
  unfold eqD
  have e : leafEq (.tuple xs) (.tuple []) = none := rfl
  rw [e]
  split
  · rename_i h; cases h
  · split
    · cases xs <;> rfl
    · rfl
/-- n deep: tuples of L items at most, numbers of m bits -/
def U (L m : Nat) : Nat → D → Prop
  | 0, d => bd m d
  | n + 1, d => bd m d ∧ ∀ ds, d = .tuple ds → ds.length ≤ L ∧ ∀ x ∈ ds, U L m n x
theorem U.bd {L m : Nat} : ∀ {n : Nat} {d : D}, U L m n d → bd m d
  | 0, _, h => h
  | _ + 1, _, h => h.1
theorem U.mono {L L' m m' : Nat} (hL : L ≤ L') (hm : m ≤ m') : ∀ {n : Nat} {d : D}, U L m n d → U L' m' n d
  | 0, d, h => bd_mono hm d h
  | n + 1, d, h => ⟨bd_mono hm d h.1, fun ds e => ⟨Nat.le_trans (h.2 ds e).1 hL, fun x hx => U.mono hL hm ((h.2 ds e).2 x hx)⟩⟩
theorem it_U {m : Nat} : ∀ {n : Nat} {d : D}, itD m d → U 1000 m n d
  | 0, d, h => it_bd d h
  | n + 1, d, h => ⟨it_bd d h, fun ds e => by subst e; have := itT.mp h; exact ⟨this.1, fun x hx => it_U (this.2 x hx)⟩⟩
theorem U_list {L m n : Nat} {ds : List D} (h : Sx.bd m (.tuple ds)) : U L m n (.list ds) := by
  have : Sx.bd m (.list ds) := bdL.mpr (bdT.mp h)
  cases n with
  | zero => exact this
  | succ n => exact ⟨this, fun ds e => by cases e⟩
theorem U_int {L m n : Nat} {z : Int} (h : z.natAbs < 2 ^ m) : U L m n (.int z) := by
  have : Sx.bd m (.int z) := by rw [Sx.bd]; exact h
  cases n with
  | zero => exact this
  | succ n => exact ⟨this, fun ds e => by cases e⟩
theorem U_leaf {L m n : Nat} {d : D} (h : Sx.bd m d) (ht : ∀ ds, d ≠ .tuple ds) : U L m n d := by
  cases n with
  | zero => exact h
  | succ n => exact ⟨h, fun ds e => (ht ds e).elim⟩
theorem U_tup {L m n : Nat} {zs : List D} (h1 : zs.length ≤ L) (h2 : ∀ z ∈ zs, U L m n z) : U L m (n + 1) (.tuple zs) :=
  ⟨bdT.mpr fun z hz => (h2 z hz).bd, fun ds e => by cases e; exact ⟨h1, h2⟩⟩
/-- a fraction, a row, of numbers of so many bits -/
theorem fr_bq {k : Nat} {q : Rat} (h : Bq k q) : Sx.bd k (fr q) := by
  unfold fr
  rw [bdT]
  intro d hd
  simp only [List.mem_cons, List.not_mem_nil, or_false] at hd
  rcases hd with rfl | rfl
  · exact bdI.mpr h.1
  · exact bdI.mpr h.2
def WiOk (n : Nat) (w : Wish) : Prop := RowOk 60 n w.r ∧ Bq 60 w.b
/-- the end of a law: as many turns as it takes -/
theorem law_turns {n t : Int} (ht : 1 ≤ t) (ht2 : t ≤ 100) (h0 : 0 ≤ n) : ∃ m : Nat, (m : Int) ≤ t ∧ (if (if t < n then t else n) > 1 then (if t < n then t else n) else 1) = (m : Int) := by
  refine ⟨(if (if t < n then t else n) > 1 then (if t < n then t else n) else 1).toNat, ?_, ?_⟩ <;> split <;> split <;> omega
theorem all_true (m : Nat) : bAll [.list (List.replicate m (.bool true))] = some (.bool true) := by
  have := bAll_map (List.replicate m true) id
  rw [List.map_replicate] at this
  rw [show (PyData.bool (id true)) = .bool true from rfl] at this
  rw [this]
  simp
end Sx
set_option Elab.async false
set_option linter.all false
set_option maxRecDepth 100000
set_option maxHeartbeats 1000000
/-! Sx, part Lp: straight programs: sums, determinants, boards, the least-index rule. -/
namespace Lp
/-! ### sums -/
def sm : Nat → (Nat → Rat) → Rat
  | 0, _ => 0
  | n + 1, f => sm n f + f n
theorem sm_congr : ∀ {n : Nat} {f g : Nat → Rat}, (∀ i, i < n → f i = g i) → sm n f = sm n g
  | 0, _, _, _ => rfl
  | n + 1, f, g, h => by
    simp only [sm]
    rw [sm_congr fun i hi => h i (by omega), h n (by omega)]
theorem sm_add : ∀ (n : Nat) (f g : Nat → Rat), sm n (fun i => f i + g i) = sm n f + sm n g
  | 0, _, _ => by simp [sm, Rat.add_zero]
  | n + 1, f, g => by
    simp only [sm]
    rw [sm_add n f g]
    grind
theorem sm_mul : ∀ (n : Nat) (a : Rat) (f : Nat → Rat), sm n (fun i => a * f i) = a * sm n f
  | 0, _, _ => by simp [sm, Rat.mul_zero]
  | n + 1, a, f => by
    simp only [sm]
    rw [sm_mul n a f]
    grind
theorem sm_sub (n : Nat) (f g : Nat → Rat) : sm n (fun i => f i - g i) = sm n f - sm n g := by
  have h : (fun i => f i - g i) = fun i => f i + (-1) * g i := by funext i; grind
  rw [h, sm_add, sm_mul]
  grind
theorem sm_zero : ∀ {n : Nat} {f : Nat → Rat}, (∀ i, i < n → f i = 0) → sm n f = 0
  | 0, _, _ => rfl
  | n + 1, f, h => by
    simp only [sm]
    rw [sm_zero fun i hi => h i (by omega), h n (by omega), Rat.add_zero]
theorem sm_one : ∀ {n k : Nat} {f : Nat → Rat}, k < n → (∀ i, i < n → i ≠ k → f i = 0) → sm n f = f k
  | 0, k, f, hk, _ => by omega
  | n + 1, k, f, hk, h => by
    simp only [sm]
    by_cases e : k = n
    · subst e
      rw [sm_zero fun i hi => h i (by omega) (by omega), Rat.zero_add]
    · rw [sm_one (k := k) (by omega) fun i hi => h i (by omega), h n (by omega) (Ne.symm e), Rat.add_zero]
theorem sm_two {n k l : Nat} {f : Nat → Rat} (hk : k < n) (hl : l < n) (hkl : k ≠ l) (h : ∀ i, i < n → i ≠ k → i ≠ l → f i = 0) : sm n f = f k + f l := by
  have e : sm n f = sm n (fun i => (if i = k then f k else 0) + (if i = l then f l else 0)) := sm_congr fun i hi => by
    by_cases h1 : i = k
    · subst h1; rw [if_pos rfl, if_neg hkl, Rat.add_zero]
    · by_cases h2 : i = l
      · subst h2; rw [if_neg h1, if_pos rfl, Rat.zero_add]
      · rw [if_neg h1, if_neg h2, h i hi h1 h2, Rat.add_zero]
  rw [e, sm_add, sm_one hk (fun i _ hi => if_neg hi), sm_one hl (fun i _ hi => if_neg hi), if_pos rfl, if_pos rfl]
theorem sm_swap : ∀ (n m : Nat) (f : Nat → Nat → Rat), sm n (fun i => sm m fun k => f i k) = sm m fun k => sm n fun i => f i k
  | 0, m, f => (sm_zero (n := m) (f := fun k => sm 0 fun i => f i k) fun k _ => rfl).symm
  | n + 1, m, f => by
    simp only [sm]
    rw [sm_swap n m f, ← sm_add]
theorem sm_neg : ∀ {n : Nat} {f : Nat → Rat}, sm n f < 0 → ∃ i, i < n ∧ f i < 0
  | 0, f, h => by simp only [sm] at h; grind
  | n + 1, f, h => by
    simp only [sm] at h
    by_cases h1 : f n < 0
    · exact ⟨n, by omega, h1⟩
    · have : sm n f < 0 := by grind
      obtain ⟨i, hi, q⟩ := sm_neg this
      exact ⟨i, by omega, q⟩
theorem sm_nn {n : Nat} {f : Nat → Rat} (h : ∀ i, i < n → 0 ≤ f i) : 0 ≤ sm n f := by
  by_cases h1 : sm n f < 0
  · obtain ⟨i, hi, q⟩ := sm_neg h1
    have := h i hi
    grind
  · grind
theorem sm_le {n : Nat} {f g : Nat → Rat} (h : ∀ i, i < n → f i ≤ g i) : sm n f ≤ sm n g := by
  have := sm_nn (n := n) (f := fun i => g i - f i) fun i hi => by have := h i hi; grind
  rw [sm_sub] at this
  grind
/-! ### determinants: columns by rows, the last row first -/
def skip (j c : Nat) : Nat := if c < j then c else c + 1
def sg (j : Nat) : Rat := if j % 2 = 0 then 1 else -1
theorem sg_succ (j : Nat) : sg (j + 1) = - sg j := by
  unfold sg
  by_cases h : j % 2 = 0
  · rw [if_pos h, if_neg (by omega)]
  · rw [if_neg h, if_pos (by omega)]
    grind
def det : Nat → (Nat → Nat → Rat) → Rat
  | 0, _ => 1
  | m + 1, A => sm (m + 1) fun j => sg j * A j m * det m fun c => A (skip j c)
def updc (A : Nat → Nat → Rat) (c : Nat) (v : Nat → Rat) : Nat → Nat → Rat := fun k => if k = c then v else A k
theorem updc_self (A : Nat → Nat → Rat) (c : Nat) : updc A c (A c) = A := by
  funext k
  unfold updc
  split
  · rename_i h; rw [h]
  · rfl
theorem updc_at (A : Nat → Nat → Rat) (c : Nat) (v : Nat → Rat) : updc A c v c = v := if_pos rfl
theorem updc_ne {A : Nat → Nat → Rat} {c k : Nat} {v : Nat → Rat} (h : k ≠ c) : updc A c v k = A k := if_neg h
theorem det_congr : ∀ {m : Nat} {A B : Nat → Nat → Rat}, (∀ c, c < m → ∀ r, r < m → A c r = B c r) → det m A = det m B
  | 0, _, _, _ => rfl
  | m + 1, A, B, h => by
    simp only [det]
    refine sm_congr fun j hj => ?_
    rw [h j hj m (by omega), det_congr (A := fun c => A (skip j c)) (B := fun c => B (skip j c)) fun c hc r hr => h _ (by unfold skip; split <;> omega) r (by omega)]
def unskip (j c : Nat) : Nat := if c < j then c else c - 1
theorem skip_upd {A : Nat → Nat → Rat} {c j : Nat} {v : Nat → Rat} (h : j ≠ c) : (fun k => updc A c v (skip j k)) = updc (fun k => A (skip j k)) (unskip j c) v := by
  funext k
  unfold updc
  by_cases e : skip j k = c
  · rw [if_pos e, if_pos (by unfold skip unskip at *; split at e <;> split <;> omega)]
  · rw [if_neg e, if_neg (fun z => e (by unfold skip unskip at *; split at z <;> split <;> omega))]
theorem skip_upd_self {A : Nat → Nat → Rat} {j : Nat} {v : Nat → Rat} : (fun k => updc A j v (skip j k)) = fun k => A (skip j k) := by
  funext k
  exact updc_ne (by unfold skip; split <;> omega)
theorem det_lin : ∀ {m : Nat} {A : Nat → Nat → Rat} {c : Nat} {u v : Nat → Rat} {a b : Rat}, c < m → det m (updc A c fun r => a * u r + b * v r) = a * det m (updc A c u) + b * det m (updc A c v)
  | 0, _, _, _, _, _, _, h => by omega
  | m + 1, A, c, u, v, a, b, h => by
    simp only [det]
    rw [← sm_mul, ← sm_mul, ← sm_add]
    refine sm_congr fun j hj => ?_
    by_cases e : j = c
    · subst e
      rw [skip_upd_self, skip_upd_self, skip_upd_self, updc_at, updc_at, updc_at]
      grind
    · rw [skip_upd e, skip_upd e, skip_upd e, updc_ne e, updc_ne e, updc_ne e, det_lin (m := m) (by unfold unskip; split <;> omega)]
      grind
theorem det_smul {m c : Nat} {A : Nat → Nat → Rat} {u : Nat → Rat} {a : Rat} (h : c < m) : det m (updc A c fun r => a * u r) = a * det m (updc A c u) := by
  have := det_lin (A := A) (u := u) (v := u) (a := a) (b := 0) h
  have e : (fun r => a * u r + 0 * u r) = fun r => a * u r := by funext r; grind
  rw [e] at this
  rw [this]
  grind
theorem det_sum {m c : Nat} {A : Nat → Nat → Rat} (h : c < m) (x : Nat → Rat) (V : Nat → Nat → Rat) : ∀ K : Nat, det m (updc A c fun r => sm K fun k => x k * V k r) = sm K fun k => x k * det m (updc A c (V k))
  | 0 => by
    simp only [sm]
    have := det_smul (A := A) (u := fun _ => 0) (a := 0) h
    have e : (fun r : Nat => (0 : Rat) * (fun _ : Nat => (0 : Rat)) r) = fun _ => 0 := by funext r; grind
    rw [e] at this
    rw [this]
    grind
  | K + 1 => by
    have e : (fun r => sm (K + 1) fun k => x k * V k r) = fun r => 1 * (fun r => sm K fun k => x k * V k r) r + x K * V K r := by
      funext r
      simp only [sm]
      grind
    rw [e, det_lin h, det_sum h x V K]
    simp only [sm]
    grind
/-- two columns alike beside one another -/
theorem det_adj : ∀ {m : Nat} {A : Nat → Nat → Rat} {c : Nat}, c + 1 < m → A c = A (c + 1) → det m A = 0
  | 0, _, _, h, _ => by omega
  | m + 1, A, c, h, e => by
    simp only [det]
    rw [sm_two (k := c) (l := c + 1) (by omega) h (by omega) fun j hj h1 h2 => ?_]
    · have em : (fun k => A (skip c k)) = fun k => A (skip (c + 1) k) := by
        funext k
        unfold skip
        by_cases k1 : k < c
        · rw [if_pos k1, if_pos (by omega)]
        · by_cases k2 : k = c
          · subst k2
            rw [if_neg (by omega), if_pos (by omega), e]
          · rw [if_neg k1, if_neg (by omega)]
      rw [em, e, sg_succ]
      grind
    · have : det m (fun k => A (skip j k)) = 0 := by
        by_cases hc : c < j
        · have h3 : c + 1 < j := by omega
          exact det_adj (c := c) (by omega) (by
            show A (skip j c) = A (skip j (c + 1))
            unfold skip
            rw [if_pos hc, if_pos h3]
            exact e)
        · have h3 : j < c := by omega
          exact det_adj (c := c - 1) (by omega) (by
            show A (skip j (c - 1)) = A (skip j (c - 1 + 1))
            unfold skip
            rw [if_neg (by omega), if_neg (by omega), show c - 1 + 1 = c by omega]
            exact e)
      rw [this]
      grind
def dd (m : Nat) (A : Nat → Nat → Rat) (c : Nat) (u v : Nat → Rat) : Rat := det m (updc (updc A c u) (c + 1) v)
theorem updc_comm {A : Nat → Nat → Rat} {c d : Nat} {u v : Nat → Rat} (h : c ≠ d) : updc (updc A c u) d v = updc (updc A d v) c u := by
  funext k
  unfold updc
  by_cases h1 : k = d
  · subst h1
    rw [if_pos rfl, if_neg (Ne.symm h), if_pos rfl]
  · rw [if_neg h1, if_neg h1]
theorem dd_same {m c : Nat} {A : Nat → Nat → Rat} {u : Nat → Rat} (h : c + 1 < m) : dd m A c u u = 0 :=
  det_adj h (by rw [updc_ne (show c ≠ c + 1 by omega), updc_at, updc_at])
theorem dd_r {m c : Nat} {A : Nat → Nat → Rat} {u v w : Nat → Rat} (h : c + 1 < m) : dd m A c u (fun r => v r + w r) = dd m A c u v + dd m A c u w := by
  unfold dd
  have := det_lin (A := updc A c u) (c := c + 1) (u := v) (v := w) (a := 1) (b := 1) h
  have e : (fun r => 1 * v r + 1 * w r) = fun r => v r + w r := by funext r; grind
  rw [e] at this
  rw [this]
  grind
theorem dd_l {m c : Nat} {A : Nat → Nat → Rat} {u v w : Nat → Rat} (h : c + 1 < m) : dd m A c (fun r => u r + v r) w = dd m A c u w + dd m A c v w := by
  unfold dd
  rw [updc_comm (by omega), updc_comm (u := u) (by omega), updc_comm (u := v) (by omega)]
  have := det_lin (A := updc A (c + 1) w) (c := c) (u := u) (v := v) (a := 1) (b := 1) (by omega : c < m)
  have e : (fun r => 1 * u r + 1 * v r) = fun r => u r + v r := by funext r; grind
  rw [e] at this
  rw [this]
  grind
theorem dd_swap {m c : Nat} {A : Nat → Nat → Rat} {u v : Nat → Rat} (h : c + 1 < m) : dd m A c u v = - dd m A c v u := by
  have h1 := dd_same (A := A) (u := fun r => u r + v r) h
  rw [dd_l h, dd_r h, dd_r h, dd_same h, dd_same h] at h1
  grind
/-- two columns alike -/
theorem det_same {m : Nat} : ∀ (n : Nat) {A : Nat → Nat → Rat} {c d : Nat}, d = c + n + 1 → d < m → A c = A d → det m A = 0
  | 0, A, c, d, e, h, q => by
    subst e
    exact det_adj h q
  | n + 1, A, c, d, e, h, q => by
    have h1 : det m A = dd m A (d - 1) (A (d - 1)) (A d) := by
      unfold dd
      rw [updc_self, show d - 1 + 1 = d by omega, updc_self]
    rw [h1, dd_swap (by omega)]
    have : dd m A (d - 1) (A d) (A (d - 1)) = 0 := by
      unfold dd
      refine det_same n (c := c) (d := d - 1) (by omega) (by omega) ?_
      rw [updc_ne (by omega), updc_ne (by omega), updc_ne (by omega), updc_at]
      exact q
    rw [this]
    grind
theorem det_twice {m : Nat} {A : Nat → Nat → Rat} {c d : Nat} (hc : c < m) (hd : d < m) (h : c ≠ d) (e : A c = A d) : det m A = 0 := by
  by_cases h1 : c < d
  · exact det_same (d - c - 1) (c := c) (d := d) (by omega) hd e
  · exact det_same (c - d - 1) (c := d) (d := c) (by omega) hc e.symm
/-- a column is a sum of the others: what it weighs -/
theorem cramer {m : Nat} {A : Nat → Nat → Rat} {i : Nat} {v x : Nat → Rat} (hi : i < m) (h : ∀ r, r < m → v r = sm m fun k => x k * A k r) : det m (updc A i v) = x i * det m A := by
  have e : det m (updc A i v) = det m (updc A i fun r => sm m fun k => x k * A k r) := det_congr fun c hc r hr => by
    unfold updc
    split
    · exact h r hr
    · rfl
  rw [e, det_sum hi, sm_one hi fun k hk hne => ?_, updc_self]
  rw [det_twice (c := i) (d := k) hi hk (Ne.symm hne) (by rw [updc_at, updc_ne hne])]
  grind
theorem det_one : ∀ {m : Nat} {A : Nat → Nat → Rat}, (∀ c, c < m → ∀ r, r < m → A c r = if c = r then 1 else 0) → det m A = 1 ∨ det m A = -1
  | 0, _, _ => .inl rfl
  | m + 1, A, h => by
    simp only [det]
    have h0 : ∀ j, j < m + 1 → j ≠ m → sg j * A j m * det m (fun c => A (skip j c)) = 0 := fun j hj hne => by
      rw [h j hj m (by omega), if_neg hne]
      grind
    rw [sm_one (k := m) (by omega) h0, h m (by omega) m (by omega), if_pos rfl]
    have ih := det_one (m := m) (A := fun c => A (skip m c)) fun c hc r hr => by
      show A (skip m c) r = _
      unfold skip
      rw [if_pos hc]
      exact h c (by omega) r (by omega)
    have hs : sg m = 1 ∨ sg m = -1 := by unfold sg; split <;> simp
    rcases ih with e | e <;> rcases hs with s | s <;> rw [e, s] <;> grind
/-! ### how great determinants are -/
/-- a number with a denominator and a bound on its numerator -/
def Fr (D B : Nat) (q : Rat) : Prop := ∃ n : Int, q * (D : Rat) = (n : Rat) ∧ n.natAbs ≤ B
theorem Fr.zero {D B : Nat} : Fr D B 0 := ⟨0, by grind, by simp⟩
theorem Fr.add {D B C : Nat} {p q : Rat} (hp : Fr D B p) (hq : Fr D C q) : Fr D (B + C) (p + q) := by
  obtain ⟨n, e, h⟩ := hp
  obtain ⟨k, f, g⟩ := hq
  refine ⟨n + k, ?_, by have := Int.natAbs_add_le n k; omega⟩
  rw [Rat.intCast_add, ← e, ← f]
  grind
theorem Fr.mul {D E B C : Nat} {p q : Rat} (hp : Fr D B p) (hq : Fr E C q) : Fr (D * E) (B * C) (p * q) := by
  obtain ⟨n, e, h⟩ := hp
  obtain ⟨k, f, g⟩ := hq
  refine ⟨n * k, ?_, by rw [Int.natAbs_mul]; exact Nat.mul_le_mul h g⟩
  rw [Rat.intCast_mul, ← e, ← f, Rat.natCast_mul]
  grind
theorem Fr.mono {D B C : Nat} {p : Rat} (hp : Fr D B p) (l : B ≤ C) : Fr D C p := let ⟨n, e, h⟩ := hp; ⟨n, e, Nat.le_trans h l⟩
theorem Fr.neg {D B : Nat} {p : Rat} (hp : Fr D B p) : Fr D B (-p) := by
  obtain ⟨n, e, h⟩ := hp
  refine ⟨-n, ?_, by rw [Int.natAbs_neg]; exact h⟩
  rw [Rat.intCast_neg, ← e]
  grind
theorem fr_sm {D B : Nat} {f : Nat → Rat} : ∀ {n : Nat}, (∀ i, i < n → Fr D B (f i)) → Fr D (n * B) (sm n f)
  | 0, _ => by simp only [sm]; exact Fr.zero
  | n + 1, h => by
    simp only [sm]
    have := (fr_sm (n := n) fun i hi => h i (by omega)).add (h n (by omega))
    rw [Nat.succ_mul]
    exact this
def fac : Nat → Nat
  | 0 => 1
  | n + 1 => (n + 1) * fac n
theorem fr_det {D B : Nat} : ∀ {m : Nat} {A : Nat → Nat → Rat}, (∀ c, c < m → ∀ r, r < m → Fr D B (A c r)) → Fr (D ^ m) (fac m * B ^ m) (det m A)
  | 0, A, _ => ⟨1, by simp only [det, Nat.pow_zero]; grind, by simp [fac]⟩
  | m + 1, A, h => by
    simp only [det]
    have := fr_sm (D := D ^ (m + 1)) (B := B * (fac m * B ^ m)) (n := m + 1) (f := fun j => sg j * A j m * det m fun c => A (skip j c)) fun j hj => by
      have h1 := h j hj m (by omega)
      have h2 := fr_det (m := m) (A := fun c => A (skip j c)) fun c hc r hr => h _ (by unfold skip; split <;> omega) r (by omega)
      have h3 := h1.mul h2
      rw [show D * D ^ m = D ^ (m + 1) by rw [Nat.pow_succ, Nat.mul_comm]] at h3
      have hs : sg j = 1 ∨ sg j = -1 := by unfold sg; split <;> simp
      rcases hs with s | s
      · rw [s, Rat.one_mul]
        exact h3
      · rw [s, show (-1 : Rat) * A j m * det m (fun c => A (skip j c)) = -(A j m * det m (fun c => A (skip j c))) by grind]
        exact h3.neg
    refine this.mono ?_
    rw [fac, Nat.pow_succ]
    have : B * (fac m * B ^ m) = fac m * (B ^ m * B) := by rw [Nat.mul_left_comm, Nat.mul_comm B]
    rw [this, Nat.mul_assoc]
    exact Nat.le_refl _
end Lp
set_option Elab.async false
set_option linter.all false
set_option maxRecDepth 100000
set_option maxHeartbeats 1000000
/-! Sx, part Lq: plain: boards, the least-index rule. -/
namespace Lp
def piv (X : Nat → Nat → Rat) (r s : Nat) : Nat → Nat → Rat := fun k c => if k = r then X r c / X r s else X k c - X k s * (X r c / X r s)
def upb (β : Nat → Nat) (r s : Nat) : Nat → Nat := fun k => if k = r then s else β k
/-- what columns are worth by the basis -/
def wor (m : Nat) (w : Nat → Rat) (X : Nat → Nat → Rat) (β : Nat → Nat) (c : Nat) : Rat := sm m fun k => w (β k) * X k c
def gap (m : Nat) (w : Nat → Rat) (X : Nat → Nat → Rat) (β : Nat → Nat) (c : Nat) : Rat := w c - wor m w X β c
theorem div_self' {a : Rat} (h : a ≠ 0) : a / a = 1 := by grind
theorem mul_div' {a b : Rat} (h : a ≠ 0) : a * (b / a) = b := by grind
theorem zero_div' {a : Rat} : (0 : Rat) / a = 0 := by rw [Rat.div_def, Rat.zero_mul]
theorem wor_piv {m : Nat} {w : Nat → Rat} {X : Nat → Nat → Rat} {β : Nat → Nat} {r s c : Nat} (hr : r < m) (h : X r s ≠ 0) :
    wor m w (piv X r s) (upb β r s) c = wor m w X β c + gap m w X β s * (X r c / X r s) := by
  unfold gap wor
  have e : sm m (fun k => w (upb β r s k) * piv X r s k c) = sm m fun k => ((w (β k) * X k c + (- (X r c / X r s)) * (w (β k) * X k s)) + if k = r then w s * (X r c / X r s) else 0) := sm_congr fun k hk => by
    unfold upb piv
    by_cases e : k = r
    · subst e
      rw [if_pos rfl, if_pos rfl, if_pos rfl]
      have : X k s * (X k c / X k s) = X k c := mul_div' h
      grind
    · rw [if_neg e, if_neg e, if_neg e]
      grind
  rw [e, sm_add, sm_add, sm_mul, sm_one hr (fun i _ hi => if_neg hi), if_pos rfl]
  grind
structure Inv (m n : Nat) (R X : Nat → Nat → Rat) (β : Nat → Nat) : Prop where
  lt : ∀ k, k < m → β k < n + m
  unit : ∀ k, k < m → ∀ i, i < m → X i (β k) = if i = k then 1 else 0
  back : ∀ i, i < m → ∀ c, R i c = wor m (R i) X β c
  fwd : ∀ k, k < m → ∀ c, X k c = sm m fun i => X k (n + i) * R i c
  det : det m (fun k i => R i (β k)) ≠ 0
section
variable {m n : Nat} {R X X' : Nat → Nat → Rat} {β β' : Nat → Nat} {r s : Nat} {w : Nat → Rat}
theorem inv_init (h : ∀ i, i < m → ∀ k, k < m → R i (n + k) = if i = k then 1 else 0) : Inv m n R R (fun k => n + k) := by
  refine ⟨fun k hk => by omega, fun k hk i hi => h i hi k hk, fun i hi c => ?_, fun k hk c => ?_, ?_⟩
  · unfold wor
    rw [sm_one hi fun k hk hne => by rw [h i hi k hk, if_neg (Ne.symm hne), Rat.zero_mul], h i hi i hi, if_pos rfl, Rat.one_mul]
  · rw [sm_one hk fun i hi hne => by rw [h k hk i hi, if_neg (Ne.symm hne), Rat.zero_mul], h k hk k hk, if_pos rfl, Rat.one_mul]
  · have := det_one (m := m) (A := fun k i => R i (n + k)) fun c hc r hr => by
      rw [h r hr c hc]
      by_cases e : r = c
      · rw [if_pos e, if_pos e.symm]
      · rw [if_neg e, if_neg (Ne.symm e)]
    rcases this with e | e <;> rw [e] <;> grind
theorem Inv.gap0 (h : Inv m n R X β) {k : Nat} (hk : k < m) : gap m w X β (β k) = 0 := by
  unfold gap wor
  rw [sm_one hk fun i hi hne => by rw [h.unit k hk i hi, if_neg hne, Rat.mul_zero], h.unit k hk k hk, if_pos rfl]
  grind
theorem Inv.inj (h : Inv m n R X β) {k l : Nat} (hk : k < m) (hl : l < m) (e : β k = β l) : k = l := by
  have h1 := h.unit k hk l hl
  rw [e, h.unit l hl l hl, if_pos rfl] at h1
  by_cases e2 : l = k
  · exact e2.symm
  · rw [if_neg e2] at h1
    exact absurd h1 (by decide)
theorem Inv.piv (h : Inv m n R X β) (hr : r < m) (hs : s < n + m) (hp : X r s ≠ 0) : Inv m n R (piv X r s) (upb β r s) := by
  refine ⟨fun k hk => ?_, fun k hk i hi => ?_, fun i hi c => ?_, fun k hk c => ?_, ?_⟩
  · unfold upb
    split
    · exact hs
    · exact h.lt k hk
  · unfold upb Lp.piv
    by_cases e : k = r
    · subst e
      rw [if_pos rfl]
      by_cases e2 : i = k
      · rw [if_pos e2, if_pos e2]
        exact div_self' hp
      · rw [if_neg e2, if_neg e2, div_self' hp]
        grind
    · rw [if_neg e, h.unit k hk r hr, if_neg (Ne.symm e), h.unit k hk i hi]
      have z : (0 : Rat) / X r s = 0 := zero_div'
      rw [z]
      by_cases e2 : i = r
      · subst e2
        rw [if_pos rfl, if_neg (Ne.symm e)]
      · rw [if_neg e2]
        grind
  · rw [wor_piv hr hp]
    unfold gap
    rw [← h.back i hi c, ← h.back i hi s]
    grind
  · unfold Lp.piv
    by_cases e : k = r
    · simp only [if_pos e]
      have e1 := h.fwd r hr c
      have : sm m (fun i => X r (n + i) / X r s * R i c) = (X r s)⁻¹ * sm m fun i => X r (n + i) * R i c := by
        rw [← sm_mul]
        exact sm_congr fun i _ => by rw [Rat.div_def]; grind
      rw [this, ← e1, Rat.div_def, Rat.mul_comm]
    · simp only [if_neg e]
      have e1 := h.fwd r hr c
      have e2 := h.fwd k hk c
      have : sm m (fun i => (X k (n + i) - X k s * (X r (n + i) / X r s)) * R i c) = sm m (fun i => X k (n + i) * R i c) - (X k s * (X r s)⁻¹) * sm m fun i => X r (n + i) * R i c := by
        rw [← sm_mul, ← sm_sub]
        exact sm_congr fun i _ => by rw [Rat.div_def]; grind
      rw [this, ← e1, ← e2, Rat.div_def]
      grind
  · have hb : ∀ i, i < m → R i s = sm m fun k => X k s * R i (β k) := fun i hi => by
      rw [h.back i hi s]
      exact sm_congr fun k _ => Rat.mul_comm _ _
    have := cramer (m := m) (A := fun k i => R i (β k)) (i := r) (v := fun i => R i s) (x := fun k => X k s) hr hb
    have e : (fun k i => R i (upb β r s k)) = updc (fun k i => R i (β k)) r fun i => R i s := by
      funext k i
      unfold upb updc
      split <;> rfl
    rw [e, this]
    intro z
    rcases Rat.mul_eq_zero.mp z with z | z
    · exact hp z
    · exact h.det z
/-- each number of a board is a quotient of determinants -/
theorem Inv.val (h : Inv m n R X β) {k c : Nat} (hk : k < m) : X k c * Lp.det m (fun k i => R i (β k)) = Lp.det m (updc (fun k i => R i (β k)) k fun i => R i c) := by
  refine (cramer (m := m) (A := fun k i => R i (β k)) (i := k) (v := fun i => R i c) (x := fun k => X k c) hk fun i hi => ?_).symm
  rw [h.back i hi c]
  exact sm_congr fun k _ => Rat.mul_comm _ _
theorem Inv.uniq (h : Inv m n R X β) (h' : Inv m n R X' β') (e : ∀ k, k < m → β k = β' k) {k : Nat} (hk : k < m) (c : Nat) : X k c = X' k c := by
  have h1 := h.val (c := c) hk
  have h2 := h'.val (c := c) hk
  have d1 : Lp.det m (fun k i => R i (β k)) = Lp.det m (fun k i => R i (β' k)) := det_congr fun c hc r hr => by rw [e c hc]
  have d2 : Lp.det m (updc (fun k i => R i (β k)) k fun i => R i c) = Lp.det m (updc (fun k i => R i (β' k)) k fun i => R i c) := det_congr fun c hc r hr => by
    unfold updc
    split
    · rfl
    · show R r (β c) = R r (β' c)
      rw [e c hc]
  rw [d1, d2, ← h2] at h1
  have hd := h'.det
  generalize Lp.det m (fun k i => R i (β' k)) = d at *
  have : (X k c - X' k c) * d = 0 := by grind
  rcases Rat.mul_eq_zero.mp this with z | z
  · grind
  · exact absurd z hd
/-- which column comes in, at which row -/
structure Step (m n : Nat) (w : Nat → Rat) (X : Nat → Nat → Rat) (β : Nat → Nat) (r s : Nat) : Prop where
  hr : r < m
  hs : s < n
  neg : gap m w X β s < 0
  least : ∀ c, c < s → 0 ≤ gap m w X β c
  pos : 0 < X r s
  min : ∀ k, k < m → 0 < X k s → X r (n + m) / X r s ≤ X k (n + m) / X k s ∧ (X r (n + m) / X r s = X k (n + m) / X k s → β r ≤ β k)
theorem div_nn {a b : Rat} (h : 0 ≤ a) (hb : 0 < b) : 0 ≤ a / b := by
  rw [Rat.div_def]
  exact Rat.mul_nonneg h (Rat.le_of_lt (Rat.inv_pos.mpr hb))
theorem Step.ne (h : Step m n w X β r s) : X r s ≠ 0 := by have := h.pos; grind
/-- what is right stays from 0 on -/
theorem Step.feas (h : Step m n w X β r s) (hf : ∀ k, k < m → 0 ≤ X k (n + m)) : ∀ k, k < m → 0 ≤ piv X r s k (n + m) := fun k hk => by
  unfold Lp.piv
  have h0 := div_nn (hf r h.hr) h.pos
  split
  · exact h0
  · by_cases hp : 0 < X k s
    · have h1 := (h.min k hk hp).1
      have h2 : X k s * (X k (n + m) / X k s) = X k (n + m) := mul_div' (by grind)
      have h3 : X k s * (X r (n + m) / X r s) ≤ X k s * (X k (n + m) / X k s) := Rat.mul_le_mul_of_nonneg_left h1 (Rat.le_of_lt hp)
      grind
    · have h3 : 0 ≤ (- X k s) * (X r (n + m) / X r s) := Rat.mul_nonneg (by grind) h0
      have := hf k hk
      grind
end
end Lp
set_option Elab.async false
set_option linter.all false
set_option maxRecDepth 100000
set_option maxHeartbeats 1000000
/-! Sx, part Lr: plain: no basis comes again; least sums and prices. -/
namespace Lp
/-! ### chains -/
theorem up_to {P : Nat → Prop} {T : Nat} (h : ∀ t, t < T → P t → P (t + 1)) {i : Nat} : ∀ d : Nat, i + d ≤ T → P i → P (i + d)
  | 0, _, p => p
  | d + 1, l, p => h (i + d) (by omega) (up_to h d (by omega) p)
theorem down_to {P : Nat → Prop} {T : Nat} (h : ∀ t, t < T → P (t + 1) → P t) {i : Nat} : ∀ d : Nat, i + d ≤ T → P (i + d) → P i
  | 0, _, p => p
  | d + 1, l, p => down_to h d (by omega) (h (i + d) (by omega) p)
theorem up' {P : Nat → Prop} {T i j : Nat} (h : ∀ t, t < T → P t → P (t + 1)) (hij : i ≤ j) (hj : j ≤ T) (p : P i) : P j := by
  have := up_to h (i := i) (j - i) (by omega) p
  rwa [show i + (j - i) = j by omega] at this
theorem down' {P : Nat → Prop} {T i j : Nat} (h : ∀ t, t < T → P (t + 1) → P t) (hij : i ≤ j) (hj : j ≤ T) (p : P j) : P i := by
  refine down_to h (i := i) (j - i) (by omega) ?_
  rwa [show i + (j - i) = j by omega]
theorem has_max (s : Nat → Nat) : ∀ T : Nat, 0 < T → ∃ b, b < T ∧ ∀ t, t < T → s t ≤ s b
  | 0, h => by omega
  | 1, _ => ⟨0, by omega, fun t ht => by rw [show t = 0 by omega]; exact Nat.le_refl _⟩
  | T + 2, _ => by
    obtain ⟨b, hb, h⟩ := has_max s (T + 1) (by omega)
    by_cases e : s b ≤ s (T + 1)
    · refine ⟨T + 1, by omega, fun t ht => ?_⟩
      by_cases e2 : t = T + 1
      · rw [e2]; exact Nat.le_refl _
      · exact Nat.le_trans (h t (by omega)) e
    · refine ⟨b, by omega, fun t ht => ?_⟩
      by_cases e2 : t = T + 1
      · rw [e2]; omega
      · exact h t (by omega)
section
variable {m n : Nat} {R : Nat → Nat → Rat} {w : Nat → Rat}
theorem Inv.wor_fwd {X : Nat → Nat → Rat} {β : Nat → Nat} (h : Inv m n R X β) (c : Nat) : wor m w X β c = sm m fun i => wor m w X β (n + i) * R i c := by
  have e : wor m w X β c = sm m fun k => sm m fun i => (w (β k) * X k (n + i)) * R i c := by
    unfold wor
    refine sm_congr fun k hk => ?_
    have e1 := h.fwd k hk c
    rw [e1, ← sm_mul]
    exact sm_congr fun i _ => by rw [Rat.mul_assoc]
  rw [e, sm_swap]
  refine sm_congr fun i _ => ?_
  unfold wor
  rw [Rat.mul_comm, ← sm_mul]
  exact sm_congr fun k _ => Rat.mul_comm _ _
/-- any sum of the rows is worth, at a column, what it is at the basis -/
theorem Inv.sum_at {X : Nat → Nat → Rat} {β : Nat → Nat} (h : Inv m n R X β) (y : Nat → Rat) (c : Nat) : sm m (fun i => y i * R i c) = sm m fun k => (sm m fun i => y i * R i (β k)) * X k c := by
  have e : sm m (fun i => y i * R i c) = sm m fun i => sm m fun k => y i * R i (β k) * X k c := sm_congr fun i hi => by
    have e1 := h.back i hi c
    unfold wor at e1
    rw [e1, ← sm_mul]
    exact sm_congr fun k _ => by rw [Rat.mul_assoc]
  rw [e, sm_swap]
  refine sm_congr fun k _ => ?_
  rw [Rat.mul_comm, ← sm_mul]
  exact sm_congr fun i _ => Rat.mul_comm _ _
theorem change {X X' : Nat → Nat → Rat} {β β' : Nat → Nat} (ha : Inv m n R X β) (hb : Inv m n R X' β') (c : Nat) : gap m w X β c = gap m w X' β' c - sm m fun k => gap m w X' β' (β k) * X k c := by
  have e1 : wor m w X' β' c = sm m fun k => wor m w X' β' (β k) * X k c := by
    rw [hb.wor_fwd c, ha.sum_at]
    exact sm_congr fun k _ => by rw [← hb.wor_fwd]
  have e2 : sm m (fun k => gap m w X' β' (β k) * X k c) = wor m w X β c - sm m fun k => wor m w X' β' (β k) * X k c := by
    unfold wor
    rw [← sm_sub]
    refine sm_congr fun k _ => ?_
    show (w (β k) - wor m w X' β' (β k)) * X k c = _
    show _ = w (β k) * X k c - wor m w X' β' (β k) * X k c
    grind
  rw [e2, ← e1]
  unfold gap
  grind
structure Run (m n : Nat) (R : Nat → Nat → Rat) (w : Nat → Rat) (X : Nat → Nat → Nat → Rat) (β : Nat → Nat → Nat) (r s : Nat → Nat) (T : Nat) : Prop where
  inv : ∀ t, t ≤ T → Inv m n R (X t) (β t)
  feas : ∀ t, t ≤ T → ∀ k, k < m → 0 ≤ X t k (n + m)
  st : ∀ t, t < T → Step m n w (X t) (β t) (r t) (s t)
  nx : ∀ t, t < T → X (t + 1) = piv (X t) (r t) (s t) ∧ β (t + 1) = upb (β t) (r t) (s t)
variable {X : Nat → Nat → Nat → Rat} {β : Nat → Nat → Nat} {r s : Nat → Nat} {T : Nat}
theorem Run.cycle (h : Run m n R w X β r s T) (hT : 0 < T) (same : ∀ k, k < m → β 0 k = β T k) : False := by
  -- the worth stands still
  have hz : ∀ t, t < T → wor m w (X (t + 1)) (β (t + 1)) (n + m) = wor m w (X t) (β t) (n + m) + gap m w (X t) (β t) (s t) * (X t (r t) (n + m) / X t (r t) (s t)) := fun t ht => by
    rw [(h.nx t ht).1, (h.nx t ht).2]
    exact wor_piv (h.st t ht).hr (h.st t ht).ne
  have hth : ∀ t, t < T → 0 ≤ X t (r t) (n + m) / X t (r t) (s t) := fun t ht => div_nn (h.feas t (by omega) _ (h.st t ht).hr) (h.st t ht).pos
  have hle : ∀ t, t < T → wor m w (X (t + 1)) (β (t + 1)) (n + m) ≤ wor m w (X t) (β t) (n + m) := fun t ht => by
    have h1 := hth t ht
    have h2 := (h.st t ht).neg
    have h3 : 0 ≤ (- gap m w (X t) (β t) (s t)) * (X t (r t) (n + m) / X t (r t) (s t)) := Rat.mul_nonneg (by grind) h1
    rw [hz t ht]
    grind
  have hend : wor m w (X T) (β T) (n + m) = wor m w (X 0) (β 0) (n + m) := by
    unfold wor
    exact sm_congr fun k hk => by rw [(h.inv T (Nat.le_refl _)).uniq (h.inv 0 (by omega)) (fun k hk => (same k hk).symm) hk, same k hk]
  have hdeg : ∀ t, t < T → X t (r t) (n + m) = 0 := fun t ht => by
    have h1 : wor m w (X t) (β t) (n + m) ≤ wor m w (X 0) (β 0) (n + m) := up' (P := fun t => wor m w (X t) (β t) (n + m) ≤ wor m w (X 0) (β 0) (n + m)) (T := T) (i := 0) (j := t) (fun u hu p => Rat.le_trans (hle u hu) p) (by omega) (by omega) Rat.le_refl
    have h2 : wor m w (X T) (β T) (n + m) ≤ wor m w (X (t + 1)) (β (t + 1)) (n + m) := down' (P := fun t => wor m w (X T) (β T) (n + m) ≤ wor m w (X t) (β t) (n + m)) (T := T) (i := t + 1) (j := T) (fun u hu p => Rat.le_trans p (hle u hu)) (by omega) (by omega) Rat.le_refl
    rw [hz t ht, hend] at h2
    have h3 := hth t ht
    have h4 := (h.st t ht).neg
    have h5 : 0 ≤ gap m w (X t) (β t) (s t) * (X t (r t) (n + m) / X t (r t) (s t)) := by grind
    have h6 : 0 ≤ (- gap m w (X t) (β t) (s t)) * (X t (r t) (n + m) / X t (r t) (s t)) := Rat.mul_nonneg (by grind) h3
    have h7 : gap m w (X t) (β t) (s t) * (X t (r t) (n + m) / X t (r t) (s t)) = 0 := by grind
    rcases Rat.mul_eq_zero.mp h7 with z | z
    · grind
    · have := mul_div' (b := X t (r t) (n + m)) (h.st t ht).ne
      rw [z] at this
      grind
  have hcol : ∀ t, t < T → ∀ k, k < m → X (t + 1) k (n + m) = X t k (n + m) := fun t ht k hk => by
    rw [(h.nx t ht).1]
    unfold Lp.piv
    rw [hdeg t ht, zero_div']
    split
    · rename_i e; rw [e, hdeg t ht]
    · grind
  have hcol0 : ∀ t, t ≤ T → ∀ k, k < m → X t k (n + m) = X 0 k (n + m) := fun t ht k hk =>
    up' (P := fun t => X t k (n + m) = X 0 k (n + m)) (T := T) (i := 0) (fun u hu p => (hcol u hu k hk).trans p) (by omega) ht rfl
  obtain ⟨b, hb, hmax⟩ := has_max s T hT
  -- the greatest one leaves at some time
  have hleave : ∃ a, a < T ∧ β a (r a) = s b := Classical.byContradiction fun hn => by
    have hn : ∀ a, a < T → β a (r a) ≠ s b := fun a ha e => hn ⟨a, ha, e⟩
    have mono : ∀ t, t < T → (∃ k, k < m ∧ β t k = s b) → ∃ k, k < m ∧ β (t + 1) k = s b := fun t ht ⟨k, hk, e⟩ => by
      refine ⟨k, hk, ?_⟩
      rw [(h.nx t ht).2]
      unfold upb
      rw [if_neg fun z => hn t ht (by rw [← z]; exact e)]
      exact e
    have h1 : ∃ k, k < m ∧ β (b + 1) k = s b := ⟨r b, (h.st b hb).hr, by rw [(h.nx b hb).2]; exact if_pos rfl⟩
    obtain ⟨k, hk, e⟩ := up' (P := fun t => ∃ k, k < m ∧ β t k = s b) mono (show b + 1 ≤ T by omega) (Nat.le_refl _) h1
    have h2 : ∃ k, k < m ∧ β 0 k = s b := ⟨k, hk, by rw [same k hk]; exact e⟩
    obtain ⟨k, hk, e⟩ := up' (P := fun t => ∃ k, k < m ∧ β t k = s b) mono (show 0 ≤ b by omega) (show b ≤ T by omega) h2
    have h3 := (h.st b hb).neg
    rw [← e, (h.inv b (by omega)).gap0 hk] at h3
    exact absurd h3 (by decide)
  obtain ⟨a, ha, hf⟩ := hleave
  have ia := h.inv a (by omega)
  have ib := h.inv b (by omega)
  have sa := h.st a ha
  have sb := h.st b hb
  have hlt : s a < s b := by
    have h1 := hmax a ha
    have h2 : s a ≠ s b := fun e => by
      have h3 := sa.neg
      rw [e, ← hf, ia.gap0 sa.hr] at h3
      exact absurd h3 (by decide)
    omega
  have hc := change (w := w) ia ib (s a)
  have h1 := sa.neg
  have h2 := sb.least (s a) hlt
  have h3 : sm m (fun k => (-1) * (gap m w (X b) (β b) (β a k) * X a k (s a))) < 0 := by
    rw [sm_mul]
    grind
  obtain ⟨k, hk, h4⟩ := sm_neg h3
  have hne : gap m w (X b) (β b) (β a k) ≠ 0 := fun e => by rw [e] at h4; grind
  have hent : ∃ t, t < T ∧ s t = β a k := Classical.byContradiction fun hn => by
    have hn : ∀ t, t < T → s t ≠ β a k := fun t ht e => hn ⟨t, ht, e⟩
    have anti : ∀ t, t < T → (∃ l, l < m ∧ β (t + 1) l = β a k) → ∃ l, l < m ∧ β t l = β a k := fun t ht ⟨l, hl, e⟩ => by
      rw [(h.nx t ht).2] at e
      unfold upb at e
      split at e
      · exact absurd e (hn t ht)
      · exact ⟨l, hl, e⟩
    obtain ⟨l, hl, e⟩ := down' (P := fun t => ∃ l, l < m ∧ β t l = β a k) anti (show 0 ≤ a by omega) (show a ≤ T by omega) ⟨k, hk, rfl⟩
    rw [same l hl] at e
    obtain ⟨l, hl, e⟩ := down' (P := fun t => ∃ l, l < m ∧ β t l = β a k) anti (show b ≤ T by omega) (Nat.le_refl _) ⟨l, hl, e⟩
    exact hne (by rw [← e]; exact ib.gap0 hl)
  obtain ⟨t, ht, et⟩ := hent
  have hcf : β a k ≤ s b := by rw [← et]; exact hmax t ht
  by_cases ecf : β a k = s b
  · have ek : k = r a := ia.inj hk sa.hr (by rw [ecf, hf])
    rw [ecf, ek] at h4
    have h5 := sb.neg
    have h6 := sa.pos
    have h7 : 0 ≤ (- gap m w (X b) (β b) (s b)) * X a (r a) (s a) := Rat.mul_nonneg (by grind) (Rat.le_of_lt h6)
    grind
  · have h5 := sb.least (β a k) (by omega)
    have h6 : 0 < X a k (s a) := Classical.byContradiction fun hn => by
      have : 0 ≤ gap m w (X b) (β b) (β a k) * (- X a k (s a)) := Rat.mul_nonneg h5 (by grind)
      grind
    have h7 : X a k (n + m) = 0 := Classical.byContradiction fun hn => by
      have hr : ∀ t, t < T → k ≠ r t := fun t ht e => hn (by
        rw [hcol0 a (by omega) k hk, ← hcol0 t (by omega) k hk, e]
        exact hdeg t ht)
      have hk0 : ∀ t, t ≤ T → β t k = β 0 k := fun t ht => up' (P := fun t => β t k = β 0 k) (T := T) (i := 0) (fun u hu p => by
        rw [(h.nx u hu).2]
        unfold upb
        rw [if_neg (hr u hu)]
        exact p) (by omega) ht rfl
      exact hne (by rw [hk0 a (by omega), ← hk0 b (by omega)]; exact ib.gap0 hk)
    have h8 := (sa.min k hk h6).2 (by rw [hdeg a ha, h7, zero_div', zero_div'])
    rw [hf] at h8
    omega
/-! ### how many bases there are -/
def code (N : Nat) : Nat → (Nat → Nat) → Nat
  | 0, _ => 0
  | m + 1, β => code N m β + N ^ m * β m
theorem code_lt {N : Nat} : ∀ {m : Nat} {β : Nat → Nat}, (∀ k, k < m → β k < N) → code N m β < N ^ m
  | 0, _, _ => by simp [code]
  | m + 1, β, h => by
    have h1 := code_lt (N := N) (m := m) (β := β) fun k hk => h k (by omega)
    have h2 := h m (by omega)
    have h3 : N ^ m * β m + N ^ m ≤ N ^ m * N := by
      rw [← Nat.mul_succ]
      exact Nat.mul_le_mul_left _ h2
    simp only [code, Nat.pow_succ]
    omega
theorem code_inj {N : Nat} : ∀ {m : Nat} {β γ : Nat → Nat}, (∀ k, k < m → β k < N) → (∀ k, k < m → γ k < N) → code N m β = code N m γ → ∀ k, k < m → β k = γ k
  | 0, _, _, _, _, _, k, hk => by omega
  | m + 1, β, γ, hb, hg, e, k, hk => by
    have h1 := code_lt (N := N) (m := m) (β := β) fun k hk => hb k (by omega)
    have h2 := code_lt (N := N) (m := m) (β := γ) fun k hk => hg k (by omega)
    simp only [code] at e
    have e1 : code N m β = code N m γ := by
      have := congrArg (· % N ^ m) e
      simp only [Nat.add_mul_mod_self_left] at this
      rwa [Nat.mod_eq_of_lt h1, Nat.mod_eq_of_lt h2] at this
    have e2 : N ^ m * β m = N ^ m * γ m := by omega
    have hp : 0 < N ^ m := by omega
    by_cases ek : k = m
    · rw [ek]
      exact Nat.eq_of_mul_eq_mul_left hp e2
    · exact code_inj (fun k hk => hb k (by omega)) (fun k hk => hg k (by omega)) e1 k (by omega)
theorem pigeon : ∀ (B : Nat) (f : Nat → Nat), (∀ i, i ≤ B → f i < B) → ∃ i j, i < j ∧ j ≤ B ∧ f i = f j
  | 0, f, h => absurd (h 0 (Nat.le_refl _)) (by omega)
  | B + 1, f, h => by
    by_cases hv : ∃ i, i ≤ B ∧ f i = f (B + 1)
    · obtain ⟨i, hi, e⟩ := hv
      exact ⟨i, B + 1, by omega, Nat.le_refl _, e⟩
    · have hv : ∀ i, i ≤ B → f i ≠ f (B + 1) := fun i hi e => hv ⟨i, hi, e⟩
      have hl := h (B + 1) (Nat.le_refl _)
      obtain ⟨i, j, hij, hj, e⟩ := pigeon B (fun i => if f i < f (B + 1) then f i else f i - 1) fun i hi => by
        have h1 := h i (by omega)
        have h2 := hv i hi
        show (if f i < f (B + 1) then f i else f i - 1) < B
        split <;> omega
      refine ⟨i, j, hij, by omega, ?_⟩
      have h1 := hv i (by omega)
      have h2 := hv j hj
      have e : (if f i < f (B + 1) then f i else f i - 1) = if f j < f (B + 1) then f j else f j - 1 := e
      split at e <;> split at e <;> omega
theorem Run.part (h : Run m n R w X β r s T) {i j : Nat} (hij : i ≤ j) (hj : j ≤ T) : Run m n R w (fun t => X (i + t)) (fun t => β (i + t)) (fun t => r (i + t)) (fun t => s (i + t)) (j - i) :=
  ⟨fun t ht => h.inv _ (by omega), fun t ht => h.feas _ (by omega), fun t ht => h.st _ (by omega), fun t ht => h.nx (i + t) (by omega)⟩
theorem Run.len (h : Run m n R w X β r s T) : T < (n + m) ^ m + 1 := Classical.byContradiction fun hn => by
  obtain ⟨i, j, hij, hj, e⟩ := pigeon ((n + m) ^ m) (fun t => code (n + m) m (β t)) fun t ht => code_lt (h.inv t (by omega)).lt
  refine (h.part (i := i) (j := j) (by omega) (by omega)).cycle (by omega) fun k hk => ?_
  have := code_inj (h.inv i (by omega)).lt (h.inv j (by omega)).lt e k hk
  show β (i + 0) k = β (i + (j - i)) k
  rw [show i + (j - i) = j by omega]
  exact this
/-! ### where it ends -/
/-- no column grows without end where the prices of some sums are up to the costs -/
theorem Inv.ends {X : Nat → Nat → Rat} {β : Nat → Nat} {c : Nat} (h : Inv m n R X β) (y : Nat → Rat) (hc : sm m (fun i => y i * R i c) ≤ w c) (hk : ∀ k, k < m → sm m (fun i => y i * R i (β k)) ≤ w (β k) ∨ X k c = 0)
    (hn : gap m w X β c < 0) : ∃ k, k < m ∧ 0 < X k c := Classical.byContradiction fun hx => by
  have hx : ∀ k, k < m → X k c ≤ 0 := fun k hk => Classical.byContradiction fun z => hx ⟨k, hk, by grind⟩
  have h1 := h.sum_at y c
  have h2 : wor m w X β c ≤ sm m fun i => y i * R i c := by
    rw [h1]
    refine sm_le fun k hk2 => ?_
    rcases hk k hk2 with h3 | h3
    · have := Rat.mul_nonneg (show 0 ≤ w (β k) - sm m (fun i => y i * R i (β k)) by grind) (show 0 ≤ - X k c by have := hx k hk2; grind)
      grind
    · rw [h3]; grind
  unfold gap at hn
  grind
/-- by how much the columns are taken -/
def wts (m n : Nat) (X : Nat → Nat → Rat) (β : Nat → Nat) (c : Nat) : Rat := sm m fun k => if β k = c then X k (n + m) else 0
theorem wts_sum {X : Nat → Nat → Rat} {β : Nat → Nat} (g : Nat → Rat) (h : ∀ k, k < m → β k < n ∨ X k (n + m) = 0) : sm n (fun c => g c * wts m n X β c) = sm m fun k => g (β k) * X k (n + m) := by
  have e : sm n (fun c => g c * wts m n X β c) = sm n fun c => sm m fun k => g c * if β k = c then X k (n + m) else 0 := sm_congr fun c _ => by unfold wts; rw [← sm_mul]
  rw [e, sm_swap]
  refine sm_congr fun k hk => ?_
  rcases h k hk with h1 | h1
  · rw [sm_one h1 fun c _ hne => by rw [if_neg (Ne.symm hne), Rat.mul_zero], if_pos rfl]
  · rw [h1, Rat.mul_zero]
    exact sm_zero fun c _ => by split <;> rw [Rat.mul_zero]
theorem wts_nn {X : Nat → Nat → Rat} {β : Nat → Nat} (h : ∀ k, k < m → 0 ≤ X k (n + m)) (c : Nat) : 0 ≤ wts m n X β c := sm_nn fun k hk => by
  split
  · exact h k hk
  · exact Rat.le_refl
end
end Lp
set_option Elab.async false
set_option linter.all false
set_option maxRecDepth 100000
set_option maxHeartbeats 1000000
/-! Sx, part Ls: plain: one more turn, two phases, how great the numbers are. -/
namespace Lp
section
variable {m n : Nat} {R : Nat → Nat → Rat} {w : Nat → Rat}
theorem Run.start {X : Nat → Nat → Rat} {β : Nat → Nat} (h : Inv m n R X β) (hf : ∀ k, k < m → 0 ≤ X k (n + m)) : Run m n R w (fun _ => X) (fun _ => β) (fun _ => 0) (fun _ => 0) 0 :=
  ⟨fun _ _ => h, fun _ _ => hf, fun t ht => by omega, fun t ht => by omega⟩
theorem Run.snoc {X : Nat → Nat → Nat → Rat} {β : Nat → Nat → Nat} {r s : Nat → Nat} {T r0 s0 : Nat} (h : Run m n R w X β r s T) (st : Step m n w (X T) (β T) r0 s0) :
    ∃ X' β' r' s', Run m n R w X' β' r' s' (T + 1) ∧ X' (T + 1) = piv (X T) r0 s0 ∧ β' (T + 1) = upb (β T) r0 s0 := by
  have hi := (h.inv T (Nat.le_refl _)).piv st.hr (by have := st.hs; omega) st.ne
  have hf := st.feas (h.feas T (Nat.le_refl _))
  refine ⟨fun t => if t ≤ T then X t else piv (X T) r0 s0, fun t => if t ≤ T then β t else upb (β T) r0 s0, fun t => if t < T then r t else r0, fun t => if t < T then s t else s0, ⟨fun t ht => ?_, fun t ht => ?_, fun t ht => ?_, fun t ht => ?_⟩, ?_, ?_⟩
  · show Inv m n R (if t ≤ T then X t else _) (if t ≤ T then β t else _)
    by_cases e : t ≤ T
    · rw [if_pos e, if_pos e]; exact h.inv t e
    · rw [if_neg e, if_neg e]; exact hi
  · show ∀ k, k < m → 0 ≤ (if t ≤ T then X t else _) k (n + m)
    by_cases e : t ≤ T
    · rw [if_pos e]; exact h.feas t e
    · rw [if_neg e]; exact hf
  · show Step m n w (if t ≤ T then X t else _) (if t ≤ T then β t else _) (if t < T then r t else r0) (if t < T then s t else s0)
    have e : t ≤ T := by omega
    rw [if_pos e, if_pos e]
    by_cases e2 : t < T
    · rw [if_pos e2, if_pos e2]; exact h.st t e2
    · rw [if_neg e2, if_neg e2, show t = T by omega]; exact st
  · show (if t + 1 ≤ T then X (t + 1) else piv (X T) r0 s0) = piv (if t ≤ T then X t else _) (if t < T then r t else r0) (if t < T then s t else s0) ∧ (if t + 1 ≤ T then β (t + 1) else upb (β T) r0 s0) = upb (if t ≤ T then β t else _) (if t < T then r t else r0) (if t < T then s t else s0)
    have e : t ≤ T := by omega
    by_cases e2 : t < T
    · have e3 : t + 1 ≤ T := e2
      rw [if_pos e, if_pos e, if_pos e2, if_pos e2, if_pos e3, if_pos e3]; exact h.nx t e2
    · have e3 : ¬ t + 1 ≤ T := by omega
      rw [if_pos e, if_pos e, if_neg e2, if_neg e2, if_neg e3, if_neg e3, show t = T by omega]; exact ⟨rfl, rfl⟩
  · show (if T + 1 ≤ T then X (T + 1) else _) = _
    rw [if_neg (by omega)]
  · show (if T + 1 ≤ T then β (T + 1) else _) = _
    rw [if_neg (by omega)]
variable {X : Nat → Nat → Rat} {β : Nat → Nat}
/-- spare columns stand in empty rows alone -/
def Spare (m n : Nat) (X : Nat → Nat → Rat) (β : Nat → Nat) : Prop := ∀ k, k < m → n ≤ β k → X k (n + m) = 0 ∧ ∀ c, c < n → X k c = 0
theorem Spare.step {r s : Nat} (h : Spare m n X β) (hs : s < n) : Spare m n (piv X r s) (upb β r s) := fun k hk hn => by
  unfold upb at hn
  by_cases e : k = r
  · rw [if_pos e] at hn; omega
  · rw [if_neg e] at hn
    obtain ⟨h1, h2⟩ := h k hk hn
    unfold piv
    refine ⟨?_, fun c hc => ?_⟩
    · rw [if_neg e, h1, h2 s hs]; grind
    · rw [if_neg e, h2 c hc, h2 s hs]; grind
/-- the first phase's costs -/
def w1 (n : Nat) : Nat → Rat := fun c => if c < n then 0 else 1
def w2 (n : Nat) (ct : Nat → Rat) : Nat → Rat := fun c => if c < n then ct c else 0
theorem ends1 {c : Nat} (h : Inv m n R X β) (hg : gap m (w1 n) X β c < 0) : ∃ k, k < m ∧ 0 < X k c := by
  have nn : ∀ c, 0 ≤ w1 n c := fun c => by unfold w1; split <;> decide
  have z : ∀ c, sm m (fun i => (0 : Rat) * R i c) = 0 := fun c => sm_zero fun i _ => by rw [Rat.zero_mul]
  exact h.ends (fun _ => 0) (by rw [z]; exact nn c) (fun k _ => .inl (by rw [z]; exact nn _)) hg
theorem ends2 {c : Nat} {ct y : Nat → Rat} (h : Inv m n R X β) (hs : Spare m n X β) (hc : c < n) (hy : ∀ c, c < n → sm m (fun i => y i * R i c) ≤ ct c) (hg : gap m (w2 n ct) X β c < 0) : ∃ k, k < m ∧ 0 < X k c := by
  refine h.ends y (by unfold w2; rw [if_pos hc]; exact hy c hc) (fun k hk => ?_) hg
  by_cases e : β k < n
  · left; unfold w2; rw [if_pos e]; exact hy _ e
  · right; exact (hs k hk (by omega)).2 c hc
/-- the prices -/
def pri (m n : Nat) (w : Nat → Rat) (X : Nat → Nat → Rat) (β : Nat → Nat) (i : Nat) : Rat := w (n + i) - gap m w X β (n + i)
theorem pri_wor (i : Nat) : pri m n w X β i = wor m w X β (n + i) := by unfold pri gap; grind
theorem Inv.pri (h : Inv m n R X β) (c : Nat) : sm m (fun i => pri m n w X β i * R i c) = wor m w X β c := by
  rw [h.wor_fwd c]
  exact sm_congr fun i _ => by rw [pri_wor]
theorem void1 (h : Inv m n R X β) (hf : ∀ k, k < m → 0 ≤ X k (n + m)) (hg : ∀ c, c < n → 0 ≤ gap m (w1 n) X β c) (hv : ∃ k, k < m ∧ n ≤ β k ∧ 0 < X k (n + m)) :
    (∀ c, c < n → sm m (fun i => Lp.pri m n (w1 n) X β i * R i c) ≤ 0) ∧ 0 < sm m fun i => Lp.pri m n (w1 n) X β i * R i (n + m) := by
  refine ⟨fun c hc => ?_, ?_⟩
  · rw [h.pri]
    have := hg c hc
    unfold gap at this
    have e : w1 n c = 0 := by unfold w1; rw [if_pos hc]
    rw [e] at this
    grind
  · rw [h.pri]
    obtain ⟨k, hk, hn, hp⟩ := hv
    unfold wor
    have nn : ∀ i, i < m → 0 ≤ w1 n (β i) * X i (n + m) := fun i hi => Rat.mul_nonneg (by unfold w1; split <;> decide) (hf i hi)
    have e : w1 n (β k) = 1 := by unfold w1; rw [if_neg (by omega)]
    have h1 : sm m (fun i => if i = k then X k (n + m) else 0) ≤ sm m fun i => w1 n (β i) * X i (n + m) := sm_le fun i hi => by
      by_cases e2 : i = k
      · subst e2; rw [if_pos rfl, e]; grind
      · rw [if_neg e2]; exact nn i hi
    rw [sm_one hk fun i _ hne => if_neg hne, if_pos rfl] at h1
    grind
theorem least2 {ct : Nat → Rat} (h : Inv m n R X β) (hf : ∀ k, k < m → 0 ≤ X k (n + m)) (hs : Spare m n X β) (hg : ∀ c, c < n → 0 ≤ gap m (w2 n ct) X β c) :
    (∀ c, 0 ≤ wts m n X β c) ∧ (∀ i, i < m → sm n (fun c => wts m n X β c * R i c) = R i (n + m)) ∧ (∀ c, c < n → sm m (fun i => Lp.pri m n (w2 n ct) X β i * R i c) ≤ ct c) ∧ sm m (fun i => Lp.pri m n (w2 n ct) X β i * R i (n + m)) = sm n fun c => ct c * wts m n X β c := by
  have hb : ∀ k, k < m → β k < n ∨ X k (n + m) = 0 := fun k hk => by
    by_cases e : β k < n
    · exact .inl e
    · exact .inr (hs k hk (by omega)).1
  refine ⟨wts_nn hf, fun i hi => ?_, fun c hc => ?_, ?_⟩
  · rw [h.back i hi (n + m)]
    unfold wor
    rw [← wts_sum (R i) hb]
    exact sm_congr fun c _ => Rat.mul_comm _ _
  · rw [h.pri]
    have := hg c hc
    unfold gap at this
    have e : w2 n ct c = ct c := by unfold w2; rw [if_pos hc]
    rw [e] at this
    grind
  · rw [h.pri]
    unfold wor
    rw [← wts_sum (w2 n ct) hb]
    exact sm_congr fun c hc => by unfold w2; rw [if_pos hc]
/-- a spare column leaves where its row is not empty -/
structure Out (m n : Nat) (R X : Nat → Nat → Rat) (β : Nat → Nat) (j : Nat) : Prop where
  inv : Inv m n R X β
  feas : ∀ k, k < m → 0 ≤ X k (n + m)
  nul : ∀ k, k < m → n ≤ β k → X k (n + m) = 0
  done : ∀ k, k < j → k < m → n ≤ β k → ∀ c, c < n → X k c = 0
theorem Out.same {j : Nat} (h : Out m n R X β j) (hz : n ≤ β j → ∀ c, c < n → X j c = 0) : Out m n R X β (j + 1) :=
  ⟨h.inv, h.feas, h.nul, fun k hk hm hn c hc => by
    by_cases e : k = j
    · subst e; exact hz hn c hc
    · exact h.done k (by omega) hm hn c hc⟩
theorem Out.piv {j s : Nat} (h : Out m n R X β j) (hj : j < m) (hn : n ≤ β j) (hs : s < n) (hp : X j s ≠ 0) : Out m n R (piv X j s) (upb β j s) (j + 1) := by
  have h0 := h.nul j hj hn
  have e0 : ∀ k, k < m → Lp.piv X j s k (n + m) = X k (n + m) := fun k hk => by
    unfold Lp.piv
    rw [h0, zero_div']
    split
    · rename_i e; rw [e, h0]
    · grind
  refine ⟨h.inv.piv hj (by omega) hp, fun k hk => by rw [e0 k hk]; exact h.feas k hk, fun k hk hn' => ?_, fun k hk hm hn' c hc => ?_⟩
  · rw [e0 k hk]
    unfold upb at hn'
    by_cases e : k = j
    · rw [if_pos e] at hn'; omega
    · rw [if_neg e] at hn'; exact h.nul k hk hn'
  · unfold upb at hn'
    by_cases e : k = j
    · rw [if_pos e] at hn'; omega
    · rw [if_neg e] at hn'
      have hd := h.done k (by omega) hm hn'
      unfold Lp.piv
      rw [if_neg e, hd c hc, hd s hs]
      grind
theorem Out.spare (h : Out m n R X β m) : Spare m n X β := fun k hk hn => ⟨h.nul k hk hn, h.done k hk hk hn⟩
end
/-! ### how great the numbers are -/
theorem fac_le : ∀ m : Nat, m ≤ 16 → fac m ≤ 2 ^ (4 * m)
  | 0, _ => by decide
  | m + 1, h => by
    have ih := fac_le m (by omega)
    rw [fac, show 4 * (m + 1) = 4 + 4 * m by omega, Nat.pow_add]
    exact Nat.mul_le_mul (by omega) ih
/-- quotients whose tops and lows are small -/
def Qo (a : Nat) (x : Rat) : Prop := ∃ p q : Int, q ≠ 0 ∧ x = Rat.divInt p q ∧ p.natAbs ≤ 2 ^ a ∧ q.natAbs ≤ 2 ^ a
theorem Fr.int_ne {D : Nat} {d : Rat} {n : Int} (hd : d ≠ 0) (hD : D ≠ 0) (e : d * (D : Rat) = (n : Rat)) : n ≠ 0 := fun z => by
  subst z
  rcases Rat.mul_eq_zero.mp (show d * (D : Rat) = 0 by rw [e]; rfl) with q | q
  · exact hd q
  · have : (D : Rat) ≠ 0 := by simpa using hD
    exact this q
theorem fr_quot {E A C a : Nat} {x d : Rat} (hd : d ≠ 0) (hE : E ≠ 0) (h1 : Fr E A (x * d)) (h2 : Fr E C d) (hA : A ≤ 2 ^ a) (hC : C ≤ 2 ^ a) : Qo a x := by
  obtain ⟨p, ep, lp⟩ := h1
  obtain ⟨q, eq, lq⟩ := h2
  have hq := Fr.int_ne hd hE eq
  refine ⟨p, q, hq, ?_, Nat.le_trans lp hA, Nat.le_trans lq hC⟩
  rw [Rat.divInt_eq_div, ← ep, ← eq]
  have : (E : Rat) ≠ 0 := by simpa using hE
  generalize (E : Rat) = F at *
  grind
theorem Fr.sub {D B C : Nat} {p q : Rat} (hp : Fr D B p) (hq : Fr D C q) : Fr D (B + C) (p - q) := by
  rw [Rat.sub_eq_add_neg]
  exact hp.add hq.neg
theorem Fr.up {D B E : Nat} {p : Rat} (hp : Fr D B p) : Fr (E * D) (E * B) p := by
  obtain ⟨n, e, h⟩ := hp
  refine ⟨E * n, ?_, by rw [Int.natAbs_mul]; exact Nat.mul_le_mul_left _ h⟩
  rw [Rat.intCast_mul, ← e, Rat.natCast_mul]
  have : ((E : Int) : Rat) = (E : Rat) := rfl
  rw [this]
  grind
structure Siz (m n : Nat) (R : Nat → Nat → Rat) (D b : Nat) : Prop where
  d0 : D ≠ 0
  db : D ≤ 2 ^ b
  r : ∀ i, i < m → ∀ c, c ≤ n + m → Fr D (2 ^ b) (R i c)
  m16 : m ≤ 16
section
variable {m n : Nat} {R X : Nat → Nat → Rat} {w : Nat → Rat} {β : Nat → Nat} {D b : Nat}
theorem kk_le (hm : m ≤ 16) : fac m * (2 ^ b) ^ m ≤ 2 ^ (m * (b + 4)) := by
  have := fac_le m hm
  rw [← Nat.pow_mul, show m * (b + 4) = 4 * m + b * m by rw [Nat.mul_add, Nat.mul_comm m b]; omega, Nat.pow_add]
  exact Nat.mul_le_mul_right _ this
theorem Siz.det (z : Siz m n R D b) (h : Inv m n R X β) : Fr (D ^ m) (2 ^ (m * (b + 4))) (Lp.det m fun k i => R i (β k)) :=
  (fr_det fun c hc r hr => z.r r hr _ (by have := h.lt c hc; omega)).mono (kk_le z.m16)
theorem Siz.num (z : Siz m n R D b) (h : Inv m n R X β) {k c : Nat} (hk : k < m) (hc : c ≤ n + m) : Fr (D ^ m) (2 ^ (m * (b + 4))) (X k c * Lp.det m fun k i => R i (β k)) := by
  rw [h.val hk]
  refine (fr_det fun j hj r hr => ?_).mono (kk_le z.m16)
  unfold updc
  split
  · exact z.r r hr c hc
  · exact z.r r hr _ (by have := h.lt j hj; omega)
theorem Siz.dm (z : Siz m n R D b) : D ^ m ≠ 0 := Nat.pos_iff_ne_zero.mp (Nat.pow_pos (Nat.pos_iff_ne_zero.mpr z.d0))
theorem Siz.x (z : Siz m n R D b) (h : Inv m n R X β) {k c : Nat} (hk : k < m) (hc : c ≤ n + m) : Qo (m * (b + 4)) (X k c) :=
  fr_quot h.det z.dm (z.num h hk hc) (z.det h) (Nat.le_refl _) (Nat.le_refl _)
theorem Qo.inv {a : Nat} {x : Rat} (h : Qo a x) (hx : x ≠ 0) : Qo a (1 / x) := by
  obtain ⟨p, q, hq, e, lp, lq⟩ := h
  have hp : p ≠ 0 := fun z => hx (by rw [e, z, Rat.zero_divInt])
  refine ⟨q, p, hp, ?_, lq, lp⟩
  rw [e, Rat.divInt_eq_div, Rat.divInt_eq_div]
  have h1 : (p : Rat) ≠ 0 := by simpa using hp
  have h2 : (q : Rat) ≠ 0 := by simpa using hq
  grind
theorem Siz.quot (z : Siz m n R D b) (h : Inv m n R X β) {r s c : Nat} (hr : r < m) (hs : s ≤ n + m) (hc : c ≤ n + m) (h0 : X r s ≠ 0) : Qo (m * (b + 4)) (X r c / X r s) := by
  have hd := h.det
  refine fr_quot (d := X r s * Lp.det m fun k i => R i (β k)) (fun e => ?_) z.dm ?_ (z.num h hr hs) (Nat.le_refl _) (Nat.le_refl _)
  · rcases Rat.mul_eq_zero.mp e with q | q
    · exact h0 q
    · exact hd q
  · have : X r c / X r s * (X r s * Lp.det m fun k i => R i (β k)) = X r c * Lp.det m fun k i => R i (β k) := by grind
    rw [this]
    exact z.num h hr hc
theorem Siz.part (z : Siz m n R D b) (h : Inv m n R X β) (hw : ∀ c, c < n + m → Fr D (2 ^ b) (w c)) {j c : Nat} (hj : j ≤ m) (hc : c < n + m) : Qo (m * (b + 4) + b + 5) (w c - sm j fun k => w (β k) * X k c) := by
  have hd := h.det
  refine fr_quot (E := D * D ^ m) (A := 2 ^ b * 2 ^ (m * (b + 4)) + j * (2 ^ b * 2 ^ (m * (b + 4)))) (C := D * 2 ^ (m * (b + 4))) (d := Lp.det m fun k i => R i (β k)) hd (Nat.mul_ne_zero z.d0 z.dm) ?_ (z.det h).up ?_ ?_
  · have e : (w c - sm j fun k => w (β k) * X k c) * (Lp.det m fun k i => R i (β k)) = w c * (Lp.det m fun k i => R i (β k)) - sm j fun k => w (β k) * (X k c * Lp.det m fun k i => R i (β k)) := by
      have : sm j (fun k => w (β k) * (X k c * Lp.det m fun k i => R i (β k))) = (Lp.det m fun k i => R i (β k)) * sm j fun k => w (β k) * X k c := by
        rw [← sm_mul]
        exact sm_congr fun k _ => by grind
      rw [this]
      grind
    rw [e]
    refine ((hw c hc).mul (z.det h)).sub (fr_sm fun k hk => ?_)
    exact (hw _ (h.lt k (by omega))).mul (z.num h (by omega) (by omega))
  · rw [← Nat.pow_add, Nat.pow_add _ _ 5, Nat.add_comm (m * (b + 4)) b]
    have := z.m16
    have h5 : (2 : Nat) ^ 5 = 32 := by decide
    rw [h5]
    have h6 := Nat.mul_le_mul_right (2 ^ (b + m * (b + 4))) (show j ≤ 16 by omega)
    omega
  · have h1 := Nat.mul_le_mul_right (2 ^ (m * (b + 4))) z.db
    rw [← Nat.pow_add] at h1
    exact Nat.le_trans h1 (Nat.pow_le_pow_right (by decide) (by omega))
/-- numbers with one low between them -/
def Few (a : Nat) (n : Nat) (f : Nat → Rat) : Prop := ∃ Q : Nat, Q ≠ 0 ∧ Q ≤ 2 ^ a ∧ ∀ i, i < n → Fr Q (2 ^ a) (f i)
theorem Siz.den (z : Siz m n R D b) (h : Inv m n R X β) : ∃ Q : Nat, Q ≠ 0 ∧ Q ≤ 2 ^ (m * (b + 4)) ∧ ∀ k, k < m → ∀ c, c ≤ n + m → Fr Q (2 ^ (m * (b + 4))) (X k c) := by
  obtain ⟨q, eq, lq⟩ := z.det h
  have hq := Fr.int_ne h.det z.dm eq
  refine ⟨q.natAbs, by omega, lq, fun k hk c hc => ?_⟩
  obtain ⟨p, ep, lp⟩ := z.num h hk hc
  have e : X k c * (q : Rat) = (p : Rat) := by rw [← eq, ← ep]; grind
  rcases Int.natAbs_eq q with s | s
  · refine ⟨p, ?_, lp⟩
    have e2 : ((q.natAbs : Nat) : Rat) = (q : Rat) := by
      have : ((q.natAbs : Int) : Rat) = (q : Rat) := by rw [← s]
      exact this
    rw [e2, e]
  · refine ⟨-p, ?_, by rw [Int.natAbs_neg]; exact lp⟩
    have e2 : ((q.natAbs : Nat) : Rat) = -(q : Rat) := by
      have h1 : (q.natAbs : Int) = -q := by omega
      have : ((q.natAbs : Int) : Rat) = ((-q : Int) : Rat) := by rw [h1]
      rw [Rat.intCast_neg] at this
      exact this
    rw [e2, Rat.intCast_neg, ← e]
    grind
theorem Siz.pri (z : Siz m n R D b) (h : Inv m n R X β) (hw : ∀ c, c < n + m → Fr D (2 ^ b) (w c)) : Few (m * (b + 4) + b + 4) m (Lp.pri m n w X β) := by
  obtain ⟨Q, q0, qb, hx⟩ := z.den h
  refine ⟨D * Q, Nat.mul_ne_zero z.d0 q0, ?_, fun i hi => ?_⟩
  · refine Nat.le_trans (Nat.mul_le_mul z.db qb) ?_
    rw [← Nat.pow_add]
    exact Nat.pow_le_pow_right (by decide) (by omega)
  · rw [pri_wor]
    unfold wor
    refine (fr_sm fun k hk => (hw _ (h.lt k hk)).mul (hx k hk _ (by omega))).mono ?_
    rw [← Nat.pow_add]
    have h1 := Nat.mul_le_mul_right (2 ^ (b + m * (b + 4))) (show m ≤ 2 ^ 4 by have := z.m16; omega)
    rw [← Nat.pow_add] at h1
    exact Nat.le_trans h1 (Nat.pow_le_pow_right (by decide) (by omega))
theorem Few.mono {a a' k : Nat} {f : Nat → Rat} (h : Few a k f) (l : a ≤ a') : Few a' k f := by
  obtain ⟨Q, q0, qb, hf⟩ := h
  have hp := Nat.pow_le_pow_right (n := 2) (by decide) l
  exact ⟨Q, q0, Nat.le_trans qb hp, fun i hi => (hf i hi).mono hp⟩
theorem Few.wts (z : Siz m n R D b) (h : Inv m n R X β) : Few (m * (b + 4)) n (wts m n X β) := by
  obtain ⟨Q, q0, qb, hx⟩ := z.den h
  refine ⟨Q, q0, qb, fun c _ => ?_⟩
  by_cases he : ∃ k, k < m ∧ β k = c
  · obtain ⟨k, hk, e⟩ := he
    have : Lp.wts m n X β c = X k (n + m) := by
      unfold Lp.wts
      rw [sm_one hk fun i hi hne => if_neg fun e2 => hne (h.inj hi hk (by rw [e2, e])), if_pos e]
    rw [this]
    exact hx k hk _ (Nat.le_refl _)
  · have : Lp.wts m n X β c = 0 := sm_zero fun k hk => if_neg fun e => he ⟨k, hk, e⟩
    rw [this]
    exact Fr.zero
theorem Few.qo {a k : Nat} {f : Nat → Rat} (h : Few a k f) {i : Nat} (hi : i < k) : Qo a (f i) := by
  obtain ⟨Q, q0, qb, hf⟩ := h
  obtain ⟨n, e, l⟩ := hf i hi
  refine ⟨n, Q, by omega, ?_, l, by omega⟩
  rw [Rat.divInt_eq_div]
  have h1 : ((Q : Int) : Rat) ≠ 0 := by simpa using q0
  have h2 : ((Q : Int) : Rat) = (Q : Rat) := rfl
  rw [← e, h2]
  rw [h2] at h1
  generalize (Q : Rat) = d at *
  grind
theorem Few.sgn {a k : Nat} {f g : Nat → Rat} (h : Few a k f) (hg : ∀ i, i < k → g i = f i ∨ g i = - f i) : Few a k g := by
  obtain ⟨Q, q0, qb, hf⟩ := h
  refine ⟨Q, q0, qb, fun i hi => ?_⟩
  rcases hg i hi with e | e <;> rw [e]
  · exact hf i hi
  · exact (hf i hi).neg
end
end Lp
set_option Elab.async false
set_option linter.all false
set_option maxRecDepth 100000
set_option maxHeartbeats 1000000
/-! Sx, part Lw: plain: boards as data. -/
namespace Sx
open PySem PySem.Spec Lp
/-- a row of so many numbers, a board, a basis, a list of numbers -/
def rwD (w : Nat) (f : Nat → Rat) : D := .tuple ((List.range w).map fun c => fr (f c))
def lsD (w : Nat) (f : Nat → Rat) : D := .list ((List.range w).map fun c => fr (f c))
def brD (m w : Nat) (X : Nat → Nat → Rat) : D := .list ((List.range m).map fun k => rwD w (X k))
def bsD (m : Nat) (β : Nat → Nat) : D := .list ((List.range m).map fun k => .int (β k : Nat))
theorem atI_range {t : Type} {w c : Nat} (f : Nat → t) (h : c < w) : L2.atI ((List.range w).map f) (c : Int) = some (f c) := by
  rw [atI_nat (by simpa using h)]
  simp
theorem atI_rlast {t : Type} {w : Nat} (f : Nat → t) : L2.atI ((List.range (w + 1)).map f) (-1) = some (f w) := by
  rw [List.range_succ, List.map_append]
  exact at_last
theorem ix_rw {w c : Nat} (f : Nat → Rat) (h : c < w) : ixD (rwD w f) (.int (c : Int)) = some (fr (f c)) := atI_range _ h
theorem ix_ls {w c : Nat} (f : Nat → Rat) (h : c < w) : ixD (lsD w f) (.int (c : Int)) = some (fr (f c)) := atI_range _ h
theorem ix_br {m w k : Nat} (X : Nat → Nat → Rat) (h : k < m) : ixD (brD m w X) (.int (k : Int)) = some (rwD w (X k)) := atI_range _ h
theorem ix_bs {m k : Nat} (β : Nat → Nat) (h : k < m) : ixD (bsD m β) (.int (k : Int)) = some (.int (β k : Nat)) := atI_range _ h
theorem ix_last {w : Nat} (f : Nat → Rat) : ixD (rwD (w + 1) f) (.int (-1)) = some (fr (f w)) := atI_rlast _
theorem it_rw {w : Nat} {f : Nat → Rat} : itemsD (rwD w f) = some ((List.range w).map fun c => fr (f c)) := rfl
theorem it_ls {w : Nat} {f : Nat → Rat} : itemsD (lsD w f) = some ((List.range w).map fun c => fr (f c)) := rfl
theorem it_br {m w : Nat} {X : Nat → Nat → Rat} : itemsD (brD m w X) = some ((List.range m).map fun k => rwD w (X k)) := rfl
theorem it_bs {m : Nat} {β : Nat → Nat} : itemsD (bsD m β) = some ((List.range m).map fun k => .int (β k : Nat)) := rfl
theorem zip2_range (f g : Nat → D) (w v : Nat) : zip2 ((List.range w).map f) ((List.range v).map g) = (List.range (min w v)).map fun c => .tuple [f c, g c] := by
  rw [zip2_map]
  refine List.ext_getElem (by simp) fun i h1 h2 => ?_
  simp
theorem enum_range (f : Nat → D) (w : Nat) : enumFrom 0 ((List.range w).map f) = (List.range w).map fun (c : Nat) => .tuple [.int (c : Int), f c] := by
  rw [enum_map]
  refine List.ext_getElem (by simp) fun i h1 h2 => ?_
  simp
theorem zip_bb {m w : Nat} {X : Nat → Nat → Rat} {β : Nat → Nat} : zipD [brD m w X, bsD m β] = some ((List.range m).map fun k => .tuple [rwD w (X k), .int (β k : Nat)]) := by
  simp only [zipD, it_br, it_bs, Option.bind_some, Option.map_some, zip2_range, Nat.min_self]
theorem zip_lr {w v : Nat} {f g : Nat → Rat} : zipD [lsD w f, rwD v g] = some ((List.range (min w v)).map fun c => .tuple [fr (f c), fr (g c)]) := by
  simp only [zipD, it_ls, it_rw, Option.bind_some, Option.map_some, zip2_range]
theorem zip_rr {w v : Nat} {f g : Nat → Rat} : zipD [rwD w f, rwD v g] = some ((List.range (min w v)).map fun c => .tuple [fr (f c), fr (g c)]) := by
  simp only [zipD, it_rw, Option.bind_some, Option.map_some, zip2_range]
theorem enum_br {m w : Nat} {X : Nat → Nat → Rat} : enumD (brD m w X) = some ((List.range m).map fun (k : Nat) => .tuple [.int (k : Int), rwD w (X k)]) := by
  simp only [enumD, it_br, Option.map_some, enum_range]
theorem enum_ls {m : Nat} {f : Nat → Rat} : enumD (lsD m f) = some ((List.range m).map fun (k : Nat) => .tuple [.int (k : Int), fr (f k)]) := by
  simp only [enumD, it_ls, Option.map_some, enum_range]
theorem len_bs {m : Nat} {β : Nat → Nat} : bLen [bsD m β] = some (.int m) := by simp [bLen, bsD]
theorem len_rw {m : Nat} {f : Nat → Rat} : bLen [rwD m f] = some (.int m) := by simp [bLen, rwD]
theorem list_rw {m : Nat} {f : Nat → Rat} : bList [rwD m f] = some (lsD m f) := rfl
theorem list_ls {m : Nat} {f : Nat → Rat} : bList [lsD m f] = some (lsD m f) := rfl
theorem tuple_ls {m : Nat} {f : Nat → Rat} : bTuple [lsD m f] = some (rwD m f) := rfl
theorem tuple_rw {m : Nat} {f : Nat → Rat} : bTuple [rwD m f] = some (rwD m f) := rfl
theorem rwD_congr {w : Nat} {f g : Nat → Rat} (h : ∀ c, c < w → f c = g c) : rwD w f = rwD w g := by
  unfold rwD
  congr 1
  exact List.map_congr_left fun c hc => by rw [h c (List.mem_range.mp hc)]
theorem lsD_congr {w : Nat} {f g : Nat → Rat} (h : ∀ c, c < w → f c = g c) : lsD w f = lsD w g := by
  unfold lsD
  congr 1
  exact List.map_congr_left fun c hc => by rw [h c (List.mem_range.mp hc)]
theorem brD_congr {m w : Nat} {X Y : Nat → Nat → Rat} (h : ∀ k, k < m → ∀ c, c < w → X k c = Y k c) : brD m w X = brD m w Y := by
  unfold brD
  congr 1
  exact List.map_congr_left fun k hk => rwD_congr (h k (List.mem_range.mp hk))
theorem bsD_congr {m : Nat} {β γ : Nat → Nat} (h : ∀ k, k < m → β k = γ k) : bsD m β = bsD m γ := by
  unfold bsD
  congr 1
  exact List.map_congr_left fun k hk => by rw [h k (List.mem_range.mp hk)]
theorem rowD_rw (r : List Rat) : rowD r = rwD r.length fun c => r.getD c 0 := by
  unfold rowD rwD
  congr 1
  refine List.ext_getElem (by simp) fun i h1 h2 => ?_
  simp at h1
  simp [h1]
theorem rw_rowD (w : Nat) (f : Nat → Rat) : rwD w f = rowD ((List.range w).map f) := by
  unfold rowD rwD
  rw [List.map_map]
  rfl
theorem range_get {t : Type} {m j : Nat} {f : Nat → t} {x : t} (h : ((List.range m).map f)[j]? = some x) : j < m ∧ x = f j := by
  have hl := lt_of_get h
  simp at hl
  rw [List.getElem?_map, List.getElem?_range hl] at h
  simp at h
  exact ⟨hl, h.symm⟩
theorem num_ne {q : Rat} (h : q ≠ 0) : (q.num == 0) = false := by rw [beq_eq_false_iff_ne]; exact fun z => h (Rat.num_eq_zero.mp z)
theorem num_pos' {q : Rat} (h : 0 < q) : 0 < q.num := by
  have := (Rat.lt_iff 0 q).mp h
  simpa using this
theorem pos_num' {q : Rat} (h : 0 < q.num) : 0 < q := (Rat.lt_iff 0 q).mpr (by simpa using h)
theorem num_neg' {q : Rat} (h : q < 0) : q.num < 0 := by
  have := (Rat.lt_iff q 0).mp h
  simpa using this
theorem neg_num' {q : Rat} (h : q.num < 0) : q < 0 := (Rat.lt_iff q 0).mpr (by simpa using h)
theorem Qo.bq {a : Nat} {x : Rat} (h : Lp.Qo a x) : Bq (a + 1) x := by
  obtain ⟨p, q, hq, rfl, lp, lq⟩ := h
  have h0 : 2 ^ a < 2 ^ (a + 1) := Nat.pow_lt_pow_right (by decide) (by omega)
  exact div_bt hq (Nat.lt_of_le_of_lt lp h0) (Nat.lt_of_le_of_lt lq h0)
theorem Qb.fr {j m : Nat} {q : Rat} (h : Qb j m q) : Lp.Fr (5040 ^ j) (2 ^ (m + 13 * j)) q := by
  obtain ⟨n, rfl, hn⟩ := h
  have h0 : ((5040 ^ j : Nat) : Rat) ≠ 0 := by
    have key : ∀ N : Nat, N ≠ 0 → (N : Rat) ≠ 0 := fun N h => by simpa using h
    exact key _ (p5040 j)
  refine ⟨n, ?_, Nat.le_trans hn ?_⟩
  · rw [Rat.mkRat_eq_div]
    generalize ((5040 ^ j : Nat) : Rat) = d at *
    grind
  · rw [Nat.pow_add, Nat.pow_mul]
    exact Nat.mul_le_mul_left _ (Nat.pow_le_pow_left (by decide) j)
theorem shaped_nats (xs : List Nat) : SeqAt.shaped (.list (xs.map fun c => (PyData.int (c : Nat) : D))) = true := by
  have h1 : ∀ xs : List Nat, PyData.canLayAll0 (xs.map fun c => (PyData.int (c : Nat) : D)) = true := fun xs => by
    induction xs with
    | nil => rfl
    | cons x xs ih => simp only [List.map_cons, PyData.canLayAll0, ih]; rfl
  have h2 : ∀ xs : List Nat, PyData.depthAll (xs.map fun c => (PyData.int (c : Nat) : D)) ≤ 1 := fun xs => by
    induction xs with
    | nil => simp [PyData.depthAll]
    | cons x xs ih =>
      have : (PyData.int (x : Nat) : D).depth ≤ 1 := by simp [PyData.depth]
      simp only [List.map_cons, PyData.depthAll]
      omega
  have := h2 xs
  unfold SeqAt.shaped
  rw [Bool.and_eq_true, decide_eq_true_eq]
  refine ⟨h1 xs, ?_⟩
  have e : (PyData.list (xs.map fun c => (PyData.int (c : Nat) : D))).depth = PyData.depthAll (xs.map fun c => (PyData.int (c : Nat) : D)) + 1 := by simp only [PyData.depth]
  omega
theorem nats_nil (xs : List Nat) : eqD (.list (xs.map fun c => (PyData.int (c : Nat) : D))) (.list []) = some (xs.map fun c => (PyData.int (c : Nat) : D)).isEmpty := eqD_nilL (shaped_nats xs)
theorem filter_head {n s : Nat} {p : Nat → Bool} {t : List Nat} (h : (List.range n).filter p = s :: t) : s < n ∧ p s = true ∧ ∀ c, c < s → p c = false := by
  have hm : s ∈ (List.range n).filter p := by rw [h]; exact List.mem_cons_self
  rw [List.mem_filter, List.mem_range] at hm
  refine ⟨hm.1, hm.2, fun c hc => ?_⟩
  cases e : p c with
  | false => rfl
  | true =>
    have hs : ((List.range n).filter p).Pairwise (· < ·) := List.Pairwise.filter p List.pairwise_lt_range
    rw [h, List.pairwise_cons] at hs
    have hc2 : c ∈ (List.range n).filter p := by rw [List.mem_filter, List.mem_range]; exact ⟨by omega, e⟩
    rw [h] at hc2
    rcases List.mem_cons.mp hc2 with z | z
    · omega
    · have := hs.1 c z; omega
theorem filter_nil {n : Nat} {p : Nat → Bool} (h : (List.range n).filter p = []) : ∀ c, c < n → p c = false := fun c hc => by
  have := List.filter_eq_nil_iff.mp h c (List.mem_range.mpr hc)
  simpa using this
theorem six_nat {l d n : Nat} (h : n ≤ l) : HT.sIx l d (some (n : Int)) = n := by
  have h0 : ¬ ((n : Int) < 0) := by omega
  simp [HT.sIx, h0]
  omega
theorem cut_take {xs : List D} {r : Nat} (h : r ≤ xs.length) : cutD xs none (some (r : Int)) = xs.take r := by
  unfold cutD
  have h1 : HT.sIx xs.length 0 none = 0 := rfl
  rw [h1, six_nat h]
  simp
theorem cut_drop {xs : List D} {r : Nat} (h : r ≤ xs.length) : cutD xs (some (r : Int)) none = xs.drop r := by
  unfold cutD
  have h1 : HT.sIx xs.length xs.length none = xs.length := rfl
  rw [h1, six_nat h]
  have e : xs.length - r = (xs.drop r).length := by simp
  rw [e, List.take_length]
theorem sl_take {xs : List D} {r : Nat} (h : r ≤ xs.length) : slD (.list xs) none (some (r : Int)) = some (.list (xs.take r)) := by
  show some (PyData.list (cutD xs none (some (r : Int)))) = _
  rw [cut_take h]
theorem sl_drop {xs : List D} {r : Nat} (h : r ≤ xs.length) : slD (.list xs) (some (r : Int)) none = some (.list (xs.drop r)) := by
  show some (PyData.list (cutD xs (some (r : Int)) none)) = _
  rw [cut_drop h]
theorem sl_takeT {xs : List D} {r : Nat} (h : r ≤ xs.length) : slD (.tuple xs) none (some (r : Int)) = some (.tuple (xs.take r)) := by
  show some (PyData.tuple (cutD xs none (some (r : Int)))) = _
  rw [cut_take h]
theorem ix_head {x : D} {xs : List D} : ixD (.list (x :: xs)) (.int 0) = some x := by
  show L2.atI (x :: xs) ((0 : Nat) : Int) = _
  rw [atI_nat (by simp)]
  rfl
theorem fm_filter {t : Type} (p : Nat → Bool) (g : Nat → t) : ∀ xs : List Nat, xs.filterMap (fun c => if p c then some (g c) else none) = (xs.filter p).map g
  | [] => rfl
  | x :: xs => by
    rw [List.filterMap_cons, List.filter_cons]
    cases h : p x with
    | true => simp only [if_true, List.map_cons, fm_filter p g xs]
    | false => simp only [fm_filter p g xs]; simp
theorem fr_qo {D B b : Nat} {x : Rat} (h : Lp.Fr D B x) (h0 : D ≠ 0) (hD : D ≤ 2 ^ b) (hB : B ≤ 2 ^ b) : Lp.Qo b x := by
  obtain ⟨n, e, l⟩ := h
  refine ⟨n, D, by omega, ?_, by omega, by omega⟩
  rw [Rat.divInt_eq_div]
  have h1 : ((D : Int) : Rat) ≠ 0 := by simpa using h0
  have h2 : ((D : Int) : Rat) = (D : Rat) := rfl
  rw [← e, h2]
  rw [h2] at h1
  generalize (D : Rat) = d at *
  grind
/-- a basis, one number put in -/
theorem bs_put {m r s : Nat} {β : Nat → Nat} (h : r < m) : (List.range m).map (fun k => (PyData.int (upb β r s k : Nat) : D)) = ((List.range m).map fun k => (PyData.int (β k : Nat) : D)).take r ++ [PyData.int (s : Nat)] ++ ((List.range m).map fun k => (PyData.int (β k : Nat) : D)).drop (r + 1) := by
  refine List.ext_getElem? fun i => ?_
  have e0 : ∀ (f : Nat → Nat) (j : Nat), ((List.range m).map fun k => (PyData.int (f k : Nat) : D))[j]? = if j < m then some (PyData.int (f j : Nat)) else none := fun f j => by
    rw [List.getElem?_map]
    by_cases e : j < m
    · rw [List.getElem?_range e, if_pos e]; rfl
    · rw [if_neg e, List.getElem?_eq_none (by simp; omega)]; rfl
  rw [e0]
  by_cases e : i < r
  · rw [List.append_assoc, List.getElem?_append_left (by simp; omega), List.getElem?_take, if_pos e, e0]
    unfold upb
    rw [if_neg (show ¬ i = r by omega)]
  · by_cases e2 : i = r
    · subst e2
      rw [List.append_assoc, List.getElem?_append_right (by simp; omega)]
      have : i - (((List.range m).map fun k => (PyData.int (β k : Nat) : D)).take i).length = 0 := by simp; omega
      rw [this]
      unfold upb
      simp [h]
    · rw [List.getElem?_append_right (by simp; omega), List.getElem?_drop, e0]
      have : r + 1 + (i - (((List.range m).map fun k => (PyData.int (β k : Nat) : D)).take r ++ [PyData.int (s : Nat)]).length) = i := by simp; omega
      rw [this]
      unfold upb
      rw [if_neg e2]
theorem bs_put' {m r s : Nat} {β : Nat → Nat} (h : r < m) : PyData.list ((((List.range m).map fun k => (PyData.int (β k : Nat) : D)).take r ++ [PyData.int (s : Nat)]) ++ ((List.range m).map fun k => (PyData.int (β k : Nat) : D)).drop (r + 1)) = bsD m (upb β r s) := by
  unfold bsD
  rw [bs_put h]
/-- the pieces of a basis -/
theorem bs_take {m r : Nat} {β : Nat → Nat} (h : r < m) : slD (bsD m β) none (some (r : Int)) = some (.list (((List.range m).map fun k => (PyData.int (β k : Nat) : D)).take r)) := sl_take (by simp; omega)
theorem bs_drop {m r : Nat} {β : Nat → Nat} (h : r < m) : slD (bsD m β) (some ((r : Int) + 1)) none = some (.list (((List.range m).map fun k => (PyData.int (β k : Nat) : D)).drop (r + 1))) := sl_drop (r := r + 1) (by simp; omega)
theorem range_at' {t : Type} {n i : Nat} (f : Nat → t) : ((List.range n).map f)[i]? = if i < n then some (f i) else none := by
  rw [List.getElem?_map]
  by_cases e : i < n
  · rw [List.getElem?_range e, if_pos e]; rfl
  · rw [if_neg e, List.getElem?_eq_none (by simp; omega)]; rfl
theorem set_range {t : Type} {n i : Nat} (f : Nat → t) (v : t) : ((List.range n).map f).set i v = (List.range n).map fun c => if c = i then v else f c := by
  refine List.ext_getElem? fun j => ?_
  rw [List.getElem?_set, range_at', range_at', List.length_map, List.length_range]
  by_cases e : i = j
  · subst e
    by_cases e2 : i < n
    · simp [e2]
    · simp [e2]
  · rw [if_neg e]
    by_cases e2 : j < n
    · rw [if_pos e2, if_pos e2, if_neg (Ne.symm e)]
    · rw [if_neg e2, if_neg e2]
theorem unit_rng {n a : Nat} (h : a < n) : unitR n a 1 = (List.range n).map fun c => if c = a then 1 else 0 := by
  refine List.ext_getElem? fun j => ?_
  rw [range_at']
  unfold unitR nulR
  by_cases e : j < a
  · rw [List.append_assoc, List.getElem?_append_left (by simp; omega), List.getElem?_replicate, if_pos e, if_pos (by omega), if_neg (by omega)]
  · by_cases e2 : j = a
    · subst e2
      rw [List.append_assoc, List.getElem?_append_right (by simp), if_pos h, if_pos rfl]
      simp
    · rw [List.getElem?_append_right (by simp; omega), List.getElem?_replicate, if_neg e2]
      simp only [List.length_append, List.length_replicate, List.length_cons, List.length_nil]
      by_cases e3 : j < n
      · rw [if_pos (by omega), if_pos e3]
      · rw [if_neg (by omega), if_neg e3]
theorem map_join {t : Type} {n m : Nat} (f g : Nat → t) (x : t) : (List.range n).map f ++ (List.range m).map g ++ [x] = (List.range (n + m + 1)).map fun c => if c < n then f c else if c < n + m then g (c - n) else x := by
  refine List.ext_getElem? fun j => ?_
  rw [range_at']
  by_cases e : j < n
  · rw [List.append_assoc, List.getElem?_append_left (by simpa using e), range_at', if_pos e, if_pos e, if_pos (by omega)]
  · by_cases e2 : j < n + m
    · rw [List.append_assoc, List.getElem?_append_right (by simp; omega), List.getElem?_append_left (by simp; omega)]
      simp only [List.length_map, List.length_range]
      rw [range_at', if_pos (show j - n < m by omega), if_pos (show j < n + m + 1 by omega), if_neg e, if_pos e2]
    · rw [List.getElem?_append_right (by simp; omega), if_neg e, if_neg e2]
      simp only [List.length_append, List.length_map, List.length_range]
      by_cases e3 : j = n + m
      · subst e3; rw [if_pos (by omega), Nat.sub_self]; rfl
      · rw [if_neg (by omega), List.getElem?_eq_none (by simp; omega)]
theorem map_two {t : Type} {n m : Nat} (f g : Nat → t) : (List.range n).map f ++ (List.range m).map g = (List.range (n + m)).map fun c => if c < n then f c else g (c - n) := by
  refine List.ext_getElem? fun j => ?_
  rw [range_at']
  by_cases e : j < n
  · rw [List.getElem?_append_left (by simpa using e), range_at', if_pos e, if_pos e, if_pos (by omega)]
  · rw [List.getElem?_append_right (by simp; omega), if_neg e]
    simp only [List.length_map, List.length_range]
    rw [range_at']
    by_cases e2 : j < n + m
    · rw [if_pos (by omega), if_pos e2]
    · rw [if_neg (by omega), if_neg e2]
theorem rep_range {t : Type} (n : Nat) (x : t) : List.replicate n x = (List.range n).map fun _ => x := by
  refine List.ext_getElem? fun j => ?_
  rw [range_at', List.getElem?_replicate]
theorem nul_rw (n : Nat) : rowD (nulR n) = rwD n fun _ => 0 := by
  unfold rowD rwD nulR
  rw [List.map_replicate, rep_range]
end Sx
set_option Elab.async false
set_option linter.all false
set_option maxRecDepth 100000
set_option maxHeartbeats 4000000
/-! Sx, part Lx: plain: lots and papers by functions on numbers, boxes. -/
namespace Sx
open PySem PySem.Spec Lp
theorem rw_snoc (s : Nat) (f : Nat → Rat) (x : Rat) : PyData.tuple ((List.range s).map (fun c => fr (f c)) ++ [fr x]) = rwD (s + 1) fun i => if i < s then f i else x := by
  unfold rwD
  congr 1
  rw [List.range_succ, List.map_append, List.map_cons, List.map_nil]
  show (List.range s).map (fun c => fr (f c)) ++ [fr x] = (List.range s).map (fun c => fr (if c < s then f c else x)) ++ [fr (if s < s then f s else x)]
  rw [if_neg (show ¬ s < s by omega)]
  congr 1
  exact List.map_congr_left fun c hc => by rw [if_pos (List.mem_range.mp hc)]
theorem few_over {a s : Nat} {y : Nat → Rat} (h : Few a (s + 1) y) (h0 : y s ≠ 0) : Few a s fun i => -(y i) / y s := by
  obtain ⟨Q, q0, qb, hf⟩ := h
  obtain ⟨q, eq, lq⟩ := hf s (by omega)
  have hq := Fr.int_ne h0 q0 eq
  have hQ : (Q : Rat) ≠ 0 := by simpa using q0
  refine ⟨q.natAbs, by omega, lq, fun i hi => ?_⟩
  obtain ⟨p, ep, lp⟩ := hf i (by omega)
  rcases Int.natAbs_eq q with e | e
  · refine ⟨-p, ?_, by rw [Int.natAbs_neg]; exact lp⟩
    have e2 : ((q.natAbs : Nat) : Rat) = (q : Rat) := by
      have : ((q.natAbs : Int) : Rat) = (q : Rat) := by rw [← e]
      exact this
    rw [e2, Rat.intCast_neg, ← ep, ← eq]
    grind
  · refine ⟨p, ?_, lp⟩
    have e2 : ((q.natAbs : Nat) : Rat) = -(q : Rat) := by
      have h1 : (q.natAbs : Int) = -q := by omega
      have : ((q.natAbs : Int) : Rat) = ((-q : Int) : Rat) := by rw [h1]
      rw [Rat.intCast_neg] at this
      exact this
    rw [e2, ← ep, ← eq]
    grind
/-- wishes by functions, with small numbers -/
structure WsOk (n s d b : Nat) (A : Nat → Nat → Rat) (bd : Nat → Rat) : Prop where
  d0 : d ≠ 0
  db : d ≤ 2 ^ b
  A : ∀ c, c < n → ∀ i, i < s → Fr d (2 ^ b) (A c i)
  bd : ∀ c, c < n → Fr d (2 ^ b) (bd c)
  s15 : s ≤ 15
  n : n ≤ 900
  bits : (s + 1) * (b + 4) + b + 12 ≤ 950
theorem rw_isE {n : Nat} {x : Nat → Rat} (h : n ≠ 0) : eqD (rwD n x) (.tuple []) = some false := by
  unfold rwD
  rw [eqD_nilA]
  cases n with
  | zero => exact absurd rfl h
  | succ n => rw [List.range_succ_eq_map]; rfl
def wA (ws : List Wish) (c i : Nat) : Rat := (ws.getD c ⟨[], 0⟩).r.getD i 0
def wB (ws : List Wish) (c : Nat) : Rat := (ws.getD c ⟨[], 0⟩).b
/-- wishes of a size with small numbers -/
structure LotF (s d b : Nat) (ws : List Wish) : Prop where
  d0 : d ≠ 0
  db : d ≤ 2 ^ b
  len : ∀ w ∈ ws, w.r.length = s
  A : ∀ w ∈ ws, ∀ q ∈ w.r, Fr d (2 ^ b) q
  B : ∀ w ∈ ws, Fr d (2 ^ b) w.b
  s1 : 1 ≤ s
  s12 : s ≤ 12
  n : ws.length ≤ 100
  bits : (s + 1) * (b + 4) + b + 12 ≤ 900
theorem wget {ws : List Wish} {c : Nat} (hc : c < ws.length) : ws.getD c ⟨[], 0⟩ ∈ ws := by
  rw [List.getD_eq_getElem?_getD, List.getElem?_eq_getElem hc]
  exact List.getElem_mem hc
theorem LotF.ok {s d b : Nat} {ws : List Wish} (h : LotF s d b ws) : WsOk ws.length s d b (wA ws) (wB ws) := ⟨h.d0, h.db, fun c hc i hi => by
  have hw := wget hc
  unfold wA
  have hl := h.len _ hw
  rw [List.getD_eq_getElem?_getD, List.getElem?_eq_getElem (by omega)]
  exact h.A _ hw _ (List.getElem_mem _), fun c hc => h.B _ (wget hc), by have := h.s12; omega, by have := h.n; omega, by have := h.bits; omega⟩
theorem rows_br {s : Nat} {ws : List Wish} (h : ∀ w ∈ ws, w.r.length = s) : PyData.list ((ws.map Wish.r).map rowD) = brD ws.length s (wA ws) := by
  unfold brD
  congr 1
  refine List.ext_getElem? fun j => ?_
  rw [range_at', List.getElem?_map, List.getElem?_map]
  by_cases e : j < ws.length
  · rw [List.getElem?_eq_getElem e, if_pos e]
    have hl := h ws[j] (List.getElem_mem e)
    show some (rowD ws[j].r) = _
    rw [rowD_rw, hl]
    congr 1
    refine rwD_congr fun c _ => ?_
    unfold wA
    rw [List.getD_eq_getElem?_getD (l := ws), List.getElem?_eq_getElem e]
    rfl
  · rw [List.getElem?_eq_none (by omega), if_neg e]; rfl
theorem bnds_ls (ws : List Wish) : PyData.list ((ws.map Wish.b).map fr) = lsD ws.length (wB ws) := by
  unfold lsD
  congr 1
  refine List.ext_getElem? fun j => ?_
  rw [range_at', List.getElem?_map, List.getElem?_map]
  by_cases e : j < ws.length
  · rw [List.getElem?_eq_getElem e, if_pos e]
    unfold wB
    rw [List.getD_eq_getElem?_getD (l := ws), List.getElem?_eq_getElem e]
    rfl
  · rw [List.getElem?_eq_none (by omega), if_neg e]; rfl
theorem dot_sm (x g : Nat → Rat) : ∀ n : Nat, dotQ ((List.range n).map x) ((List.range n).map g) = sm n fun c => x c * g c
  | 0 => rfl
  | n + 1 => by
    unfold dotQ
    rw [List.range_succ, List.map_append, List.map_append, dotF_app _ _ _ (by simp)]
    have := dot_sm x g n
    unfold dotQ at this
    rw [this]
    rfl
theorem fr_part {Q d a b : Nat} {x g : Rat} (hx : Fr Q (2 ^ a) x) (hg : Fr d (2 ^ b) g) : Fr (Q * d) (2 ^ (a + b)) (x * g) := by
  rw [Nat.pow_add]
  exact hx.mul hg
theorem fr_sz {Q B a : Nat} {x : Rat} (h : Fr Q B x) (h0 : Q ≠ 0) (hQ : Q ≤ 2 ^ a) (hB : B ≤ 2 ^ a) (l : a + 1 ≤ 1900) : Sz x := (Qo.bq (fr_qo h h0 hQ hB)).sz l
theorem Few.dot {a b d n : Nat} {x g : Nat → Rat} (hx : Few a n x) (d0 : d ≠ 0) (db : d ≤ 2 ^ b) (hg : ∀ c, c < n → Fr d (2 ^ b) (g c)) (hn : n ≤ 1000) : Qo (a + b + 10) (sm n fun c => x c * g c) := by
  obtain ⟨Q, q0, qb, hf⟩ := hx
  refine fr_qo (fr_sm fun c hc => fr_part (hf c hc) (hg c hc)) (Nat.mul_ne_zero q0 d0) ?_ ?_
  · have := Nat.mul_le_mul qb db
    rw [← Nat.pow_add] at this
    exact Nat.le_trans this (Nat.pow_le_pow_right (by decide) (by omega))
  · have := Nat.mul_le_mul_right (2 ^ (a + b)) (show n ≤ 2 ^ 10 by omega)
    rw [← Nat.pow_add] at this
    exact Nat.le_trans this (Nat.pow_le_pow_right (by decide) (by omega))
theorem few_of {n d b a : Nat} {f : Nat → Rat} (d0 : d ≠ 0) (db : d ≤ 2 ^ b) (h : ∀ i, i < n → Fr d (2 ^ b) (f i)) (l : b ≤ a) : Few a n f := by
  have hp := Nat.pow_le_pow_right (n := 2) (by decide) l
  exact ⟨d, d0, Nat.le_trans db hp, fun i hi => (h i hi).mono hp⟩
/-- a row lies in the lot -/
def InL (n s : Nat) (A : Nat → Nat → Rat) (bd : Nat → Rat) (y : Nat → Rat) : Prop := ∀ c, c < n → sm s (fun i => A c i * y i) ≤ bd c
/-- a paper is right -/
def PaR (n s : Nat) (A : Nat → Nat → Rat) (bd row : Nat → Rat) (bound : Rat) (kind : String) (x : Nat → Rat) : Prop :=
  (∀ c, c < n → 0 ≤ x c) ∧ ((kind = "void" ∧ (∀ i, i < s → sm n (fun c => x c * A c i) = 0) ∧ sm n (fun c => x c * bd c) < 0) ∨ (kind = "bound" ∧ (∀ i, i < s → sm n (fun c => x c * A c i) = row i) ∧ sm n (fun c => x c * bd c) ≤ bound))
theorem weak {n s : Nat} {A : Nat → Nat → Rat} {bd x y : Nat → Rat} (hx : ∀ c, c < n → 0 ≤ x c) (hy : InL n s A bd y) : sm s (fun i => (sm n fun c => x c * A c i) * y i) ≤ sm n fun c => x c * bd c := by
  have e : sm s (fun i => (sm n fun c => x c * A c i) * y i) = sm n fun c => x c * sm s fun i => A c i * y i := by
    have e1 : sm s (fun i => (sm n fun c => x c * A c i) * y i) = sm s fun i => sm n fun c => x c * A c i * y i := sm_congr fun i _ => by
      rw [Rat.mul_comm, ← sm_mul]
      exact sm_congr fun c _ => Rat.mul_comm _ _
    rw [e1, sm_swap]
    refine sm_congr fun c _ => ?_
    rw [← sm_mul]
    exact sm_congr fun i _ => by rw [Rat.mul_assoc]
  rw [e]
  exact sm_le fun c hc => Rat.mul_le_mul_of_nonneg_left (hy c hc) (hx c hc)
theorem PaR.says {n s : Nat} {A : Nat → Nat → Rat} {bd row x : Nat → Rat} {bound : Rat} {kind : String} (h : PaR n s A bd row bound kind x) {y : Nat → Rat} (hy : InL n s A bd y) : sm s (fun i => row i * y i) ≤ bound := by
  have hw := weak h.1 hy
  rcases h.2 with ⟨_, h1, h2⟩ | ⟨_, h1, h2⟩
  · rw [sm_zero fun i hi => by rw [h1 i hi, Rat.zero_mul]] at hw
    grind
  · have e : sm s (fun i => (sm n fun c => x c * A c i) * y i) = sm s fun i => row i * y i := sm_congr fun i hi => by rw [h1 i hi]
    rw [e] at hw
    exact Rat.le_trans hw h2
theorem ray_far {n s : Nat} {A : Nat → Nat → Rat} {bd row z r : Nat → Rat} (hz : InL n s A bd z) (hr : ∀ c, c < n → sm s (fun i => A c i * r i) ≤ 0) (hp : 0 < sm s fun i => row i * r i) (bound : Rat) : ∃ y, InL n s A bd y ∧ bound < sm s fun i => row i * y i := by
  have lin : ∀ (f : Nat → Rat) (t : Rat), sm s (fun i => f i * (z i + t * r i)) = sm s (fun i => f i * z i) + t * sm s fun i => f i * r i := fun f t => by
    rw [← sm_mul, ← sm_add]
    exact sm_congr fun i _ => by grind
  have key : ∃ t : Rat, 0 ≤ t ∧ bound < sm s (fun i => row i * z i) + t * sm s fun i => row i * r i := by
    generalize sm s (fun i => row i * z i) = p
    generalize sm s (fun i => row i * r i) = q at *
    by_cases h : bound < p
    · exact ⟨0, Rat.le_refl, by grind⟩
    · refine ⟨(bound - p) / q + 1, ?_, ?_⟩
      · have := div_nn (show 0 ≤ bound - p by grind) hp
        grind
      · have h1 : (bound - p) / q * q = bound - p := by
          rw [Rat.mul_comm]
          exact Lp.mul_div' (by grind)
        grind
  obtain ⟨t, t0, ht⟩ := key
  refine ⟨fun i => z i + t * r i, fun c hc => ?_, ?_⟩
  · rw [lin]
    have h1 := hz c hc
    have h2 := Rat.mul_nonneg t0 (show 0 ≤ - sm s (fun i => A c i * r i) by have := hr c hc; grind)
    grind
  · rw [lin]
    exact ht
/-- the law's own way to mix -/
def mixL (a : List Rat) : List (List Rat) → List Rat → List Rat
  | r :: rs, q :: qs => mixL (List.zipWith (fun h t => h + q * t) a r) rs qs
  | _, _ => a
theorem mixL_eq {n : Nat} : ∀ {rows : List (List Rat)} {qs a : List Rat}, a.length = n → (∀ r ∈ rows, r.length = n) → mixL a rows qs = mixF a rows qs
  | [], qs, a, _, _ => by cases qs <;> rfl
  | r :: rs, [], a, _, _ => rfl
  | r :: rs, q :: qs, a, h, hr => by
    have hl := hr r List.mem_cons_self
    have e : List.zipWith (fun h t => h + q * t) a r = if q = 0 then a else plusR a (scaleR r q) := by
      split
      · rename_i e
        subst e
        refine List.ext_getElem (by simp; omega) fun i h1 h2 => ?_
        simp [Rat.zero_mul, Rat.add_zero]
      · refine List.ext_getElem (by simp [plusR, scaleR]) fun i h1 h2 => ?_
        simp [plusR, scaleR, Rat.mul_comm]
    unfold mixL mixF
    rw [e, mixL_eq (n := n) (by split; exact h; simp [plusR, scaleR, h, hl]) fun x hx => hr x (List.mem_cons_of_mem _ hx)]
theorem mix_sm {s : Nat} {ws : List Wish} (hl : ∀ w ∈ ws, w.r.length = s) (x : Nat → Rat) : rowD (mixF (nulR s) (ws.map Wish.r) ((List.range ws.length).map x)) = rwD s fun i => sm ws.length fun c => x c * wA ws c i := by
  have hr : ∀ r ∈ ws.map Wish.r, r.length = s := fun r hr => by
    obtain ⟨w, hw, rfl⟩ := List.mem_map.mp hr
    exact hl w hw
  rw [mix_eq (n := s) (by simp [nulR]) hr, ← rw_rowD]
  refine rwD_congr fun i hi => ?_
  rw [nulR_at]
  have e : colQ (ws.map Wish.r) i = (List.range ws.length).map fun c => wA ws c i := by
    unfold colQ
    rw [List.map_map]
    refine List.ext_getElem? fun j => ?_
    rw [range_at', List.getElem?_map]
    by_cases h : j < ws.length
    · rw [List.getElem?_eq_getElem h, if_pos h]
      unfold wA
      rw [List.getD_eq_getElem?_getD (l := ws), List.getElem?_eq_getElem h]
      rfl
    · rw [List.getElem?_eq_none (by omega), if_neg h]; rfl
  rw [e]
  exact dot_sm x (fun c => wA ws c i) ws.length
theorem bnd_list (ws : List Wish) : ws.map Wish.b = (List.range ws.length).map (wB ws) := by
  refine List.ext_getElem? fun j => ?_
  rw [range_at', List.getElem?_map]
  by_cases h : j < ws.length
  · rw [List.getElem?_eq_getElem h, if_pos h]
    unfold wB
    rw [List.getD_eq_getElem?_getD (l := ws), List.getElem?_eq_getElem h]
    rfl
  · rw [List.getElem?_eq_none (by omega), if_neg h]; rfl
theorem dotb_sm (ws : List Wish) (x : Nat → Rat) : dotQ ((List.range ws.length).map x) (ws.map Wish.b) = sm ws.length fun c => x c * wB ws c := by
  rw [bnd_list, dot_sm]
/-- sums of a few: what they need -/
theorem few_parts {s d b a : Nat} {ws : List Wish} {x : Nat → Rat} (h : LotF s d b ws) (hx : Few a ws.length x) (hb : a + b + 20 ≤ 1900) :
    ∃ Z : Nat → Rat → Prop, Z 0 0 ∧ (∀ t, Z t 0) ∧ (∀ t q, Z t q → Z (t + 1) q) ∧ (∀ w ∈ ws, ∀ q ∈ w.r, Sz q) ∧ (∀ w ∈ ws, Sz w.b) ∧ (∀ q ∈ (List.range ws.length).map x, Sz q) ∧ (∀ w ∈ ws, ∀ y ∈ w.r, ∀ q ∈ (List.range ws.length).map x, Sz (q * y)) ∧ (∀ w ∈ ws, ∀ q ∈ (List.range ws.length).map x, Sz (q * w.b)) ∧
      (∀ t q, t ≤ ws.length → Z t q → Sz q) ∧ (∀ t c, t < ws.length → Z t c → ∀ w ∈ ws, ∀ y ∈ w.r, ∀ q ∈ (List.range ws.length).map x, Z (t + 1) (c + q * y)) ∧ (∀ t c, t < ws.length → Z t c → ∀ w ∈ ws, ∀ q ∈ (List.range ws.length).map x, Z (t + 1) (c + q * w.b)) := by
  obtain ⟨Q, q0, qb, hf⟩ := hx
  have qd : Q * d ≤ 2 ^ (a + b) := by rw [Nat.pow_add]; exact Nat.mul_le_mul qb h.db
  have qd0 := Nat.mul_ne_zero q0 h.d0
  have hn := h.n
  have mem : ∀ {q : Rat}, q ∈ (List.range ws.length).map x → Fr Q (2 ^ a) q := fun {q} hq => by
    obtain ⟨c, hc, rfl⟩ := List.mem_map.mp hq
    exact hf c (List.mem_range.mp hc)
  have up : ∀ {t q p}, Fr (Q * d) (t * 2 ^ (a + b)) q → Fr (Q * d) (2 ^ (a + b)) p → Fr (Q * d) ((t + 1) * 2 ^ (a + b)) (q + p) := fun {t q p} h1 h2 => by
    rw [Nat.succ_mul]
    exact h1.add h2
  refine ⟨fun t q => Fr (Q * d) (t * 2 ^ (a + b)) q, Fr.zero, fun t => Fr.zero, fun t q h => h.mono (Nat.mul_le_mul_right _ (by omega)), fun w hw q hq => fr_sz (h.A w hw q hq) h.d0 h.db (Nat.le_refl _) (by omega), fun w hw => fr_sz (h.B w hw) h.d0 h.db (Nat.le_refl _) (by omega),
    fun q hq => fr_sz (mem hq) q0 qb (Nat.le_refl _) (by omega), fun w hw y hy q hq => fr_sz (fr_part (mem hq) (h.A w hw y hy)) qd0 qd (Nat.le_refl _) (by omega), fun w hw q hq => fr_sz (fr_part (mem hq) (h.B w hw)) qd0 qd (Nat.le_refl _) (by omega), fun t q ht h1 => ?_,
    fun t c ht h1 w hw y hy q hq => up h1 (fr_part (mem hq) (h.A w hw y hy)), fun t c ht h1 w hw q hq => up h1 (fr_part (mem hq) (h.B w hw))⟩
  refine fr_sz (a := a + b + 10) h1 qd0 (Nat.le_trans qd (Nat.pow_le_pow_right (by decide) (by omega))) ?_ (by omega)
  have := Nat.mul_le_mul_right (2 ^ (a + b)) (show t ≤ 2 ^ 10 by omega)
  rw [← Nat.pow_add] at this
  exact Nat.le_trans this (Nat.pow_le_pow_right (by decide) (by omega))
theorem rw_list (n : Nat) (x : Nat → Rat) : itemsD (rwD n x) = some (((List.range n).map x).map fr) := by rw [it_rw, List.map_map]; rfl
theorem rowB_rw (n : Nat) (x : Nat → Rat) : rowB (n : Int) (rwD n x) = true := by
  rw [rw_rowD]
  simp [rowD, rowB, fr_ratio]
theorem num_nn {q : Rat} (h : 0 ≤ q) : 0 ≤ q.num := Rat.num_nonneg.mpr h
theorem eq_rw (s : Nat) (f g : Nat → Rat) : eqD (rwD s f) (rwD s g) = some (decide (∀ i, i < s → f i = g i)) := by
  rw [rw_rowD, rw_rowD, eqD_row, Option.some.injEq, decide_eq_decide]
  constructor
  · intro h i hi
    have := congrArg (fun l => l[i]?) h
    simpa [range_at', hi] using this
  · intro h
    exact List.map_congr_left fun c hc => h c (List.mem_range.mp hc)
theorem nul_fn (s : Nat) : rowD (nulR s) = rwD s fun _ => 0 := nul_rw s
theorem bd_rw {a n : Nat} {x : Nat → Rat} (h : Few a n x) (l : a + 1 ≤ 8000) : bd 8000 (rwD n x) := by
  unfold rwD
  rw [bdT]
  intro d hd
  obtain ⟨c, hc, rfl⟩ := List.mem_map.mp hd
  have hq := (Qo.bq (h.qo (List.mem_range.mp hc))).mono l
  show bd 8000 (.tuple [.int (x c).num, .int (x c).den])
  rw [bdT]
  intro d hd
  simp only [List.mem_cons, List.not_mem_nil, or_false] at hd
  rcases hd with rfl | rfl
  · exact bdI.mpr hq.1
  · exact bdI.mpr hq.2
def loF (sp : List Span) (a : Nat) : Rat := (sp.getD a ⟨0, 0⟩).lo
def hiF (sp : List Span) (a : Nat) : Rat := (sp.getD a ⟨0, 0⟩).hi
def corF (sp : List Span) (row : Nat → Rat) (a : Nat) : Rat := if 0 < row a then hiF sp a else loF sp a
theorem sp_range (sp : List Span) : sp.map spanD = (List.range sp.length).map fun a => .tuple [fr (loF sp a), fr (hiF sp a)] := by
  refine List.ext_getElem? fun j => ?_
  rw [range_at', List.getElem?_map]
  by_cases h : j < sp.length
  · rw [List.getElem?_eq_getElem h, if_pos h]
    unfold loF hiF
    rw [List.getD_eq_getElem?_getD, List.getElem?_eq_getElem h]
    rfl
  · rw [List.getElem?_eq_none (by omega), if_neg h]; rfl
def posR (q : Rat) : Rat := if 0 < q then q else 0
def ownU (row : Nat → Rat) (c : Nat) : Rat := if c % 2 = 0 then posR (row (c / 2)) else posR (-(row (c / 2)))
theorem range_two (j : Nat) (f : Nat → D) : (List.range (2 * (j + 1))).map f = (List.range (2 * j)).map f ++ [f (2 * j)] ++ [f (2 * j + 1)] := by
  rw [show 2 * (j + 1) = 2 * j + 1 + 1 by omega, List.range_succ, List.range_succ, List.map_append, List.map_append]
  rfl
theorem fm_get (n : Nat) : ∀ (sp : List Span) (k c : Nat), ((sp.zipIdx k).flatMap (boxW n))[c]? = (sp[c / 2]?).map fun s => if c % 2 = 0 then (⟨unitR n (k + c / 2) 1, s.hi⟩ : Wish) else ⟨unitR n (k + c / 2) (-1), -s.lo⟩
  | [], k, c => by simp
  | s :: sp, k, 0 => by simp [List.zipIdx_cons, boxW]
  | s :: sp, k, 1 => by simp [List.zipIdx_cons, boxW]
  | s :: sp, k, c + 2 => by
    have ih := fm_get n sp (k + 1) c
    have e1 : (c + 2) / 2 = c / 2 + 1 := by omega
    have e2 : (c + 2) % 2 = c % 2 := by omega
    rw [List.zipIdx_cons, List.flatMap_cons]
    have e3 : (boxW n (s, k) ++ (sp.zipIdx (k + 1)).flatMap (boxW n))[c + 2]? = ((sp.zipIdx (k + 1)).flatMap (boxW n))[c]? := by
      rw [List.getElem?_append_right (by simp [boxW])]
      simp [boxW]
    rw [e3, ih, e1, e2, List.getElem?_cons_succ, show k + 1 + c / 2 = k + (c / 2 + 1) by omega]
theorem box_get {sp : List Span} {c : Nat} (h : c < 2 * sp.length) : (boxWs sp).getD c ⟨[], 0⟩ = if c % 2 = 0 then ⟨unitR sp.length (c / 2) 1, hiF sp (c / 2)⟩ else ⟨unitR sp.length (c / 2) (-1), -(loF sp (c / 2))⟩ := by
  unfold boxWs
  rw [List.getD_eq_getElem?_getD, fm_get]
  have h2 : c / 2 < sp.length := by omega
  unfold hiF loF
  rw [List.getD_eq_getElem?_getD, List.getElem?_eq_getElem h2, Nat.zero_add]
  rfl
theorem unit_at {n a i : Nat} {q : Rat} (ha : a < n) (hi : i < n) : (unitR n a q).getD i 0 = if i = a then q else 0 := by
  rw [← Sx.unit_range ha, List.getD_eq_getElem?_getD, range_at', if_pos hi]
  rfl
theorem sm_pair (f : Nat → Rat) : ∀ n : Nat, sm (2 * n) f = sm n fun a => f (2 * a) + f (2 * a + 1)
  | 0 => rfl
  | n + 1 => by
    rw [show 2 * (n + 1) = 2 * n + 1 + 1 by omega]
    simp only [sm]
    rw [sm_pair f n]
    grind
def rowF (row : List Rat) (i : Nat) : Rat := row.getD i 0
theorem pos_nn (q : Rat) : 0 ≤ posR q := by
  unfold posR
  split
  · rename_i h; exact Rat.le_of_lt h
  · exact Rat.le_refl
theorem pos_diff (q : Rat) : posR q - posR (-q) = q := by
  unfold posR
  split <;> split <;> grind
theorem rep1 (a : Bool) : reprOk (.bool a) = true := by cases a <;> decide +kernel
theorem sp_ok {sp : List Span} (hsp : ∀ s ∈ sp, SpanOk s) {a : Nat} (h : a < sp.length) : Qb 1 4 (loF sp a) ∧ Qb 1 4 (hiF sp a) ∧ loF sp a ≤ hiF sp a := by
  unfold loF hiF
  rw [List.getD_eq_getElem?_getD, List.getElem?_eq_getElem h]
  obtain ⟨h1, h2, h3⟩ := hsp _ (List.getElem_mem h)
  exact ⟨h1.mono (by decide) (by decide), h2, h3⟩
theorem cor_qb {sp : List Span} (hsp : ∀ s ∈ sp, SpanOk s) (row : Nat → Rat) {a : Nat} (h : a < sp.length) : Qb 1 4 (corF sp row a) := by
  unfold corF
  obtain ⟨h1, h2, _⟩ := sp_ok hsp h
  split
  · exact h2
  · exact h1
end Sx
set_option Elab.async false
set_option linter.all false
set_option maxRecDepth 100000
set_option maxHeartbeats 1000000
/-! Sx, part Fm: plain: unknowns are taken out of wishes in whole numbers, one after the other. -/
namespace Sx
open PySem PySem.Spec Lp

/-- a wish in whole numbers: so many factors, the bound, 1 if the bound itself is not let -/
abbrev Wi := List Int
def wq (w : Wi) (i : Nat) : Rat := ((w.getD i 0 : Int) : Rat)
def SatW (n : Nat) (x : Nat → Rat) (w : Wi) : Prop :=
  sm n (fun i => wq w i * x i) ≤ wq w n ∧ (w.getD (n + 1) 0 ≠ 0 → sm n (fun i => wq w i * x i) < wq w n)
structure WzOk (n : Nat) (w : Wi) : Prop where
  len : w.length = n + 2
  st : w.getD (n + 1) 0 = 0 ∨ w.getD (n + 1) 0 = 1

/-! ### between -/
theorem least_of (f : α → Rat) : ∀ l : List α, l ≠ [] → ∃ m ∈ l, ∀ u ∈ l, f m ≤ f u
  | [], h => absurd rfl h
  | [a], _ => ⟨a, List.mem_cons_self, fun u hu => by rw [List.mem_singleton.mp hu]; exact Rat.le_refl⟩
  | a :: b :: r, _ => by
    obtain ⟨m, hm, h⟩ := least_of f (b :: r) (by simp)
    by_cases l : f a ≤ f m
    · refine ⟨a, List.mem_cons_self, fun u hu => ?_⟩
      rcases List.mem_cons.mp hu with rfl | hu
      · exact Rat.le_refl
      · exact Rat.le_trans l (h u hu)
    · refine ⟨m, List.mem_cons_of_mem _ hm, fun u hu => ?_⟩
      rcases List.mem_cons.mp hu with rfl | hu
      · grind
      · exact h u hu
theorem between (us ds : List (Rat × Bool)) (h : ∀ u ∈ us, ∀ d ∈ ds, d.1 ≤ u.1 ∧ (u.2 = true ∨ d.2 = true → d.1 < u.1)) :
    ∃ t : Rat, (∀ u ∈ us, t ≤ u.1 ∧ (u.2 = true → t < u.1)) ∧ ∀ d ∈ ds, d.1 ≤ t ∧ (d.2 = true → d.1 < t) := by
  by_cases hu : us = []
  · subst hu
    by_cases hd : ds = []
    · subst hd; exact ⟨0, fun _ z => (nomatch z), fun _ z => (nomatch z)⟩
    · obtain ⟨m, hm, hle⟩ := least_of (fun d : Rat × Bool => - d.1) ds hd
      refine ⟨m.1 + 1, fun _ z => (nomatch z), fun d hd => ?_⟩
      have := hle d hd
      constructor <;> grind
  · obtain ⟨a, ha, ale⟩ := least_of (fun d : Rat × Bool => d.1) us hu
    by_cases hd : ds = []
    · subst hd
      refine ⟨a.1 - 1, fun u hu => ?_, fun _ z => nomatch z⟩
      have := ale u hu
      constructor <;> grind
    · obtain ⟨m, hm, hle⟩ := least_of (fun d : Rat × Bool => - d.1) ds hd
      by_cases e : m.1 = a.1
      · refine ⟨a.1, fun u hu => ⟨ale u hu, fun z => ?_⟩, fun d hd => ⟨?_, fun z => ?_⟩⟩
        · have := (h u hu m hm).2 (.inl z); grind
        · have := hle d hd; grind
        · have := (h a ha d hd).2 (.inr z); exact this
      · have l := (h a ha m hm).1
        refine ⟨(m.1 + a.1) / 2, fun u hu => ?_, fun d hd => ?_⟩
        · have := ale u hu
          constructor <;> grind
        · have := hle d hd
          constructor <;> grind

/-! ### without common divisors -/
def gcL (l : List Int) : Nat := l.foldl (fun g e => Nat.gcd g e.natAbs) 0
def gcF (g : Nat) (l : List Int) : Nat := l.foldl (fun g e => Nat.gcd g e.natAbs) g
theorem gcF_dvd : ∀ (l : List Int) (g : Nat), gcF g l ∣ g ∧ ∀ e ∈ l, gcF g l ∣ e.natAbs
  | [], g => ⟨Nat.dvd_refl _, fun _ h => by cases h⟩
  | a :: l, g => by
    obtain ⟨h1, h2⟩ := gcF_dvd l (Nat.gcd g a.natAbs)
    have e : gcF g (a :: l) = gcF (Nat.gcd g a.natAbs) l := rfl
    rw [e]
    refine ⟨Nat.dvd_trans h1 (Nat.gcd_dvd_left _ _), fun x hx => ?_⟩
    rcases List.mem_cons.mp hx with rfl | hx
    · exact Nat.dvd_trans h1 (Nat.gcd_dvd_right _ _)
    · exact h2 x hx
theorem dvd_gcF (c : Nat) : ∀ (l : List Int) (g : Nat), c ∣ g → (∀ e ∈ l, c ∣ e.natAbs) → c ∣ gcF g l
  | [], g, h, _ => h
  | a :: l, g, h, k => dvd_gcF c l _ (Nat.dvd_gcd h (k a List.mem_cons_self)) fun e he => k e (List.mem_cons_of_mem _ he)
theorem gcL_dvd {l : List Int} {e : Int} (h : e ∈ l) : gcL l ∣ e.natAbs := (gcF_dvd l 0).2 e h
theorem gcL_dvdI {l : List Int} {e : Int} (h : e ∈ l) : (gcL l : Int) ∣ e := Int.ofNat_dvd_left.mpr (gcL_dvd h)
theorem dvd_gcL {c : Nat} {l : List Int} (h : ∀ e ∈ l, c ∣ e.natAbs) : c ∣ gcL l := dvd_gcF c l 0 (Nat.dvd_zero _) h
def lowW (n : Nat) (w : Wi) : Wi := if gcL (w.take (n + 1)) < 2 then w else (w.take (n + 1)).map (· / (gcL (w.take (n + 1)) : Int)) ++ w.drop (n + 1)
theorem low_len (n : Nat) (w : Wi) : (lowW n w).length = w.length := by
  unfold lowW
  split
  · rfl
  · rw [List.length_append, List.length_map, List.length_take, List.length_drop]; omega
theorem low_hi {n i : Nat} {w : Wi} (hl : n + 1 ≤ w.length) (h : n + 1 ≤ i) : (lowW n w).getD i 0 = w.getD i 0 := by
  unfold lowW
  split
  · rfl
  · simp only [List.getD_eq_getElem?_getD]
    rw [List.getElem?_append_right (by simp; omega)]
    simp only [List.length_map, List.length_take, List.getElem?_drop]
    congr 2
    omega
theorem low_ok {n : Nat} {w : Wi} (h : WzOk n w) : WzOk n (lowW n w) := ⟨(low_len n w).trans h.len, by rw [low_hi (by have := h.len; omega) (Nat.le_refl _)]; exact h.st⟩
theorem low_lo {n : Nat} {w : Wi} (hl : w.length = n + 2) : ∃ g : Int, 0 < g ∧ ∀ i, i ≤ n → w.getD i 0 = g * (lowW n w).getD i 0 := by
  unfold lowW
  by_cases h : gcL (w.take (n + 1)) < 2
  · exact ⟨1, by decide, fun i hi => by rw [if_pos h, Int.one_mul]⟩
  · refine ⟨gcL (w.take (n + 1)), by omega, fun i hi => ?_⟩
    rw [if_neg h]
    simp only [List.getD_eq_getElem?_getD]
    rw [List.getElem?_append_left (by simp; omega), List.getElem?_map, List.getElem?_take_of_lt (by omega)]
    have hi' : i < w.length := by omega
    rw [List.getElem?_eq_getElem hi']
    have hm : w[i] ∈ w.take (n + 1) := by
      have : (w.take (n + 1))[i]? = some w[i] := by rw [List.getElem?_take_of_lt (by omega), List.getElem?_eq_getElem hi']
      exact List.mem_of_getElem? this
    have := Int.mul_ediv_cancel' (gcL_dvdI hm)
    simp only [Option.map_some, Option.getD_some]
    exact this.symm
theorem low_sat {n : Nat} {w : Wi} {x : Nat → Rat} (h : w.length = n + 2) : SatW n x (lowW n w) ↔ SatW n x w := by
  obtain ⟨g, g0, e⟩ := low_lo h
  have gq : (0 : Rat) < (g : Rat) := by exact_mod_cast g0
  have hi := low_hi (n := n) (i := n + 1) (w := w) (by omega) (Nat.le_refl _)
  have eq : ∀ i, i ≤ n → wq w i = g * wq (lowW n w) i := fun i hi => by
    unfold wq; rw [e i hi, Rat.intCast_mul]
  have es : sm n (fun i => wq w i * x i) = g * sm n (fun i => wq (lowW n w) i * x i) := by
    rw [← sm_mul]
    exact sm_congr fun i hi => by rw [eq i (by omega), Rat.mul_assoc]
  have eb := eq n (Nat.le_refl _)
  unfold SatW
  rw [es, eb, hi]
  generalize sm n (fun i => wq (lowW n w) i * x i) = a
  generalize wq (lowW n w) n = b
  have h1 : a ≤ b ↔ (g : Rat) * a ≤ g * b := ⟨fun q => Rat.mul_le_mul_of_nonneg_left q (Rat.le_of_lt gq), fun q => Rat.le_of_mul_le_mul_left q gq⟩
  have h2 : a < b ↔ (g : Rat) * a < g * b := ⟨fun q => Rat.mul_lt_mul_of_pos_left q gq, fun q => Rat.lt_of_mul_lt_mul_left q (Rat.le_of_lt gq)⟩
  rw [← h1, ← h2]
/-- lowered -/
def LoW (n : Nat) (w : Wi) : Prop := ∀ c : Nat, (∀ i, i ≤ n → c ∣ (w.getD i 0).natAbs) → c < 2
theorem mem_getD {w : Wi} {m : Nat} {e : Int} (h : e ∈ w.take m) : ∃ i, i < m ∧ e = w.getD i 0 := by
  obtain ⟨i, hi⟩ := List.getElem?_of_mem h
  have hl := lt_of_get hi
  rw [List.length_take] at hl
  rw [List.getElem?_take_of_lt (by omega)] at hi
  exact ⟨i, by omega, by rw [List.getD_eq_getElem?_getD, hi]; rfl⟩
theorem low_lowered {n : Nat} {w : Wi} (hl : w.length = n + 2) : LoW n (lowW n w) ∨ ∀ i, i ≤ n → (lowW n w).getD i 0 = 0 := by
  by_cases h : gcL (w.take (n + 1)) < 2
  · have e : lowW n w = w := by unfold lowW; rw [if_pos h]
    rw [e]
    by_cases z : gcL (w.take (n + 1)) = 0
    · refine .inr fun i hi => ?_
      have hm : w.getD i 0 ∈ w.take (n + 1) := by
        have hi' : i < w.length := by omega
        have : (w.take (n + 1))[i]? = some (w.getD i 0) := by rw [List.getElem?_take_of_lt (by omega), List.getD_eq_getElem?_getD, List.getElem?_eq_getElem hi']; rfl
        exact List.mem_of_getElem? this
      have := gcL_dvd hm
      rw [z, Nat.zero_dvd] at this
      omega
    · refine .inl fun c hc => ?_
      have : c ∣ gcL (w.take (n + 1)) := dvd_gcL fun e he => by
        obtain ⟨i, hi, rfl⟩ := mem_getD he
        exact hc i (by omega)
      have := Nat.le_of_dvd (by omega) this
      omega
  · refine .inl fun c hc => ?_
    have g0 : 0 < gcL (w.take (n + 1)) := by omega
    have key : c * gcL (w.take (n + 1)) ∣ gcL (w.take (n + 1)) := dvd_gcL fun e he => by
      obtain ⟨i, hi, rfl⟩ := mem_getD he
      have e2 : w.getD i 0 = (gcL (w.take (n + 1)) : Int) * (lowW n w).getD i 0 := by
        unfold lowW
        rw [if_neg h]
        simp only [List.getD_eq_getElem?_getD]
        rw [List.getElem?_append_left (by simp; omega), List.getElem?_map, List.getElem?_take_of_lt (by omega)]
        have hi' : i < w.length := by omega
        rw [List.getElem?_eq_getElem hi']
        have hm : w[i] ∈ w.take (n + 1) := by
          have : (w.take (n + 1))[i]? = some w[i] := by rw [List.getElem?_take_of_lt (by omega), List.getElem?_eq_getElem hi']
          exact List.mem_of_getElem? this
        have := Int.mul_ediv_cancel' (gcL_dvdI hm)
        simp only [Option.map_some, Option.getD_some]
        exact this.symm
      rw [e2, Int.natAbs_mul, Int.natAbs_natCast, Nat.mul_comm]
      exact Nat.mul_dvd_mul_left _ (hc i (by omega))
    have := Nat.le_of_dvd g0 key
    have h3 : c * gcL (w.take (n + 1)) ≤ 1 * gcL (w.take (n + 1)) := by omega
    have := Nat.le_of_mul_le_mul_right h3 g0
    omega

/-! ### what two wishes say together -/
def joinW (n k : Nat) (one two : Wi) : Wi := lowW n (List.zipWith (fun h t => (0 - two.getD k 0) * h + one.getD k 0 * t) (one.take (n + 1)) (two.take (n + 1)) ++ [max (one.getD (n + 1) 0) (two.getD (n + 1) 0)])
def rawW (n k : Nat) (one two : Wi) : Wi := List.zipWith (fun h t => (0 - two.getD k 0) * h + one.getD k 0 * t) (one.take (n + 1)) (two.take (n + 1)) ++ [max (one.getD (n + 1) 0) (two.getD (n + 1) 0)]
theorem join_eq (n k : Nat) (one two : Wi) : joinW n k one two = lowW n (rawW n k one two) := rfl
theorem raw_lo {n k i : Nat} {one two : Wi} (h1 : one.length = n + 2) (h2 : two.length = n + 2) (hi : i ≤ n) : (rawW n k one two).getD i 0 = (0 - two.getD k 0) * one.getD i 0 + one.getD k 0 * two.getD i 0 := by
  unfold rawW
  have a1 : i < one.length := by omega
  have a2 : i < two.length := by omega
  have l : i < (List.zipWith (fun h t => (0 - two.getD k 0) * h + one.getD k 0 * t) (one.take (n + 1)) (two.take (n + 1))).length := by simp; omega
  rw [List.getD_eq_getElem?_getD, List.getElem?_append_left l, List.getElem?_eq_getElem l]
  simp only [List.getElem_zipWith, List.getElem_take, Option.getD_some]
  rw [List.getD_eq_getElem?_getD (l := one) (i := i), List.getElem?_eq_getElem a1, List.getD_eq_getElem?_getD (l := two) (i := i), List.getElem?_eq_getElem a2]
  rfl
theorem raw_len {n k : Nat} {one two : Wi} (h1 : one.length = n + 2) (h2 : two.length = n + 2) : (rawW n k one two).length = n + 2 := by
  unfold rawW
  simp
  omega
theorem raw_st {n k : Nat} {one two : Wi} (h1 : one.length = n + 2) (h2 : two.length = n + 2) : (rawW n k one two).getD (n + 1) 0 = max (one.getD (n + 1) 0) (two.getD (n + 1) 0) := by
  unfold rawW
  rw [List.getD_eq_getElem?_getD, List.getElem?_append_right (by simp; omega)]
  simp only [List.length_zipWith, List.length_take, h1, h2]
  have : n + 1 - min (min (n + 1) (n + 2)) (min (n + 1) (n + 2)) = 0 := by omega
  rw [this]
  rfl
theorem raw_ok {n k : Nat} {one two : Wi} (h1 : WzOk n one) (h2 : WzOk n two) : WzOk n (rawW n k one two) := ⟨raw_len h1.len h2.len, by
  rw [raw_st h1.len h2.len]
  rcases h1.st with a | a <;> rcases h2.st with b | b <;> rw [a, b] <;> decide⟩
theorem join_ok {n k : Nat} {one two : Wi} (h1 : WzOk n one) (h2 : WzOk n two) : WzOk n (joinW n k one two) := by
  rw [join_eq]; exact low_ok (raw_ok h1 h2)
theorem raw_sum {n k : Nat} {one two : Wi} {x : Nat → Rat} (h1 : one.length = n + 2) (h2 : two.length = n + 2) :
    sm n (fun i => wq (rawW n k one two) i * x i) = (- wq two k) * sm n (fun i => wq one i * x i) + wq one k * sm n (fun i => wq two i * x i) := by
  rw [← sm_mul, ← sm_mul, ← sm_add]
  refine sm_congr fun i hi => ?_
  unfold wq
  rw [raw_lo h1 h2 (by omega), Rat.intCast_add, Rat.intCast_mul, Rat.intCast_mul, Rat.intCast_sub]
  grind
theorem raw_bd {n k : Nat} {one two : Wi} (h1 : one.length = n + 2) (h2 : two.length = n + 2) : wq (rawW n k one two) n = (- wq two k) * wq one n + wq one k * wq two n := by
  unfold wq
  rw [raw_lo h1 h2 (Nat.le_refl _), Rat.intCast_add, Rat.intCast_mul, Rat.intCast_mul, Rat.intCast_sub]
  grind
theorem st_or {n k : Nat} {one two : Wi} (h1 : WzOk n one) (h2 : WzOk n two) : (rawW n k one two).getD (n + 1) 0 ≠ 0 ↔ one.getD (n + 1) 0 ≠ 0 ∨ two.getD (n + 1) 0 ≠ 0 := by
  rw [raw_st h1.len h2.len]
  rcases h1.st with a | a <;> rcases h2.st with b | b <;> rw [a, b] <;> decide

/-! ### one unknown is taken out -/
def zerW (k : Nat) (left : List Wi) : List Wi := left.filter fun w => decide (w.getD k 0 = 0)
def dowW (k : Nat) (left : List Wi) : List Wi := left.filter fun w => decide (w.getD k 0 < 0)
def upsW (k : Nat) (left : List Wi) : List Wi := left.filter fun w => decide (0 < w.getD k 0)
def fmPre (n k : Nat) (left : List Wi) : List Wi := zerW k left ++ (upsW k left).flatMap fun one => (dowW k left).map (joinW n k one)
theorem mem_zer {k : Nat} {left : List Wi} {w : Wi} : w ∈ zerW k left ↔ w ∈ left ∧ w.getD k 0 = 0 := by simp [zerW]
theorem mem_dow {k : Nat} {left : List Wi} {w : Wi} : w ∈ dowW k left ↔ w ∈ left ∧ w.getD k 0 < 0 := by simp [dowW]
theorem mem_ups {k : Nat} {left : List Wi} {w : Wi} : w ∈ upsW k left ↔ w ∈ left ∧ 0 < w.getD k 0 := by simp [upsW]
theorem mem_pre {n k : Nat} {left : List Wi} {w : Wi} : w ∈ fmPre n k left ↔ (w ∈ left ∧ w.getD k 0 = 0) ∨ ∃ one two, (one ∈ left ∧ 0 < one.getD k 0) ∧ (two ∈ left ∧ two.getD k 0 < 0) ∧ w = joinW n k one two := by
  unfold fmPre
  rw [List.mem_append, mem_zer, List.mem_flatMap]
  constructor
  · rintro (h | ⟨one, h1, h2⟩)
    · exact .inl h
    · obtain ⟨two, h3, rfl⟩ := List.mem_map.mp h2
      exact .inr ⟨one, two, mem_ups.mp h1, mem_dow.mp h3, rfl⟩
  · rintro (h | ⟨one, two, h1, h2, rfl⟩)
    · exact .inl h
    · exact .inr ⟨one, mem_ups.mpr h1, List.mem_map.mpr ⟨two, mem_dow.mpr h2, rfl⟩⟩
theorem pre_ok {n k : Nat} {left : List Wi} (h : ∀ w ∈ left, WzOk n w) : ∀ w ∈ fmPre n k left, WzOk n w := fun w hw => by
  rcases mem_pre.mp hw with h1 | ⟨one, two, h1, h2, rfl⟩
  · exact h w h1.1
  · exact join_ok (h one h1.1) (h two h2.1)
/-- what is nought stays nought -/
theorem pre_nought {n k i : Nat} {left : List Wi} (h : ∀ w ∈ left, WzOk n w) (hi : i ≤ n) (hz : i = k ∨ ∀ w ∈ left, w.getD i 0 = 0) : ∀ w ∈ fmPre n k left, w.getD i 0 = 0 := fun w hw => by
  rcases mem_pre.mp hw with h1 | ⟨one, two, h1, h2, rfl⟩
  · rcases hz with rfl | hz
    · exact h1.2
    · exact hz w h1.1
  · have l1 := (h one h1.1).len
    have l2 := (h two h2.1).len
    obtain ⟨g, g0, e⟩ := low_lo (raw_len (k := k) l1 l2)
    have e1 := e i hi
    rw [raw_lo l1 l2 hi] at e1
    have z : (0 - two.getD k 0) * one.getD i 0 + one.getD k 0 * two.getD i 0 = 0 := by
      rcases hz with rfl | hz
      · rw [Int.zero_sub, Int.neg_mul, Int.mul_comm]; omega
      · rw [hz one h1.1, hz two h2.1, Int.mul_zero, Int.mul_zero]; rfl
    rw [z] at e1
    rw [join_eq]
    rcases Int.mul_eq_zero.mp e1.symm with q | q
    · omega
    · exact q
theorem sm_upd {n k : Nat} {f x : Nat → Rat} {t : Rat} (hk : k < n) : sm n (fun i => f i * (if i = k then t else x i)) = sm n (fun i => f i * (if i = k then 0 else x i)) + f k * t := by
  have e : ∀ i, f i * (if i = k then t else x i) = f i * (if i = k then 0 else x i) + (if i = k then f k * t else 0) := fun i => by
    by_cases h : i = k
    · subst h; rw [if_pos rfl, if_pos rfl, if_pos rfl]; grind
    · rw [if_neg h, if_neg h, if_neg h]; grind
  rw [show (fun i => f i * (if i = k then t else x i)) = fun i => f i * (if i = k then 0 else x i) + (if i = k then f k * t else 0) from funext e, sm_add, sm_one hk fun i _ h => if_neg h, if_pos rfl]
theorem div_up {p r b t : Rat} (hp : 0 < p) : (t ≤ (b - r) / p ↔ r + p * t ≤ b) ∧ (t < (b - r) / p ↔ r + p * t < b) := by
  have e : p * ((b - r) / p) = b - r := Lp.mul_div' (by grind)
  generalize (b - r) / p = q at *
  refine ⟨⟨fun h => ?_, fun h => ?_⟩, ⟨fun h => ?_, fun h => ?_⟩⟩
  · have := Rat.mul_le_mul_of_nonneg_left h (Rat.le_of_lt hp); grind
  · exact Rat.le_of_mul_le_mul_left (by grind : p * t ≤ p * q) hp
  · have := Rat.mul_lt_mul_of_pos_left h hp; grind
  · exact Rat.lt_of_mul_lt_mul_left (by grind : p * t < p * q) (Rat.le_of_lt hp)
theorem div_dn {p r b t : Rat} (hp : p < 0) : ((b - r) / p ≤ t ↔ r + p * t ≤ b) ∧ ((b - r) / p < t ↔ r + p * t < b) := by
  have e : p * ((b - r) / p) = b - r := Lp.mul_div' (by grind)
  have hm : 0 < -p := by grind
  generalize (b - r) / p = q at *
  refine ⟨⟨fun h => ?_, fun h => ?_⟩, ⟨fun h => ?_, fun h => ?_⟩⟩
  · have := Rat.mul_le_mul_of_nonneg_left h (Rat.le_of_lt hm); grind
  · exact Rat.le_of_mul_le_mul_left (by grind : (-p) * q ≤ (-p) * t) hm
  · have := Rat.mul_lt_mul_of_pos_left h hm; grind
  · exact Rat.lt_of_mul_lt_mul_left (by grind : (-p) * q < (-p) * t) (Rat.le_of_lt hm)
theorem join_gap {u d ru rd bu bd : Rat} (hu : 0 < u) (hd : d < 0) : ((-d) * ru + u * rd ≤ (-d) * bu + u * bd ↔ (bd - rd) / d ≤ (bu - ru) / u) ∧ ((-d) * ru + u * rd < (-d) * bu + u * bd ↔ (bd - rd) / d < (bu - ru) / u) := by
  have e1 : u * ((bu - ru) / u) = bu - ru := Lp.mul_div' (by grind)
  have e2 : d * ((bd - rd) / d) = bd - rd := Lp.mul_div' (by grind)
  have hm : 0 < u * (-d) := Rat.mul_pos hu (by grind)
  generalize (bu - ru) / u = p at *
  generalize (bd - rd) / d = q at *
  have k1 : (-d) * (bu - ru) = u * (-d) * p := by rw [← e1]; grind
  have k2 : u * (bd - rd) = - (u * (-d) * q) := by rw [← e2]; grind
  refine ⟨⟨fun h => ?_, fun h => ?_⟩, ⟨fun h => ?_, fun h => ?_⟩⟩
  · exact Rat.le_of_mul_le_mul_left (by grind : u * (-d) * q ≤ u * (-d) * p) hm
  · have := Rat.mul_le_mul_of_nonneg_left h (Rat.le_of_lt hm); grind
  · exact Rat.lt_of_mul_lt_mul_left (by grind : u * (-d) * q < u * (-d) * p) (Rat.le_of_lt hm)
  · have := Rat.mul_lt_mul_of_pos_left h hm; grind
theorem pre_sat {n k : Nat} {left : List Wi} (h : ∀ w ∈ left, WzOk n w) (hk : k < n) : (∃ x, ∀ w ∈ left, SatW n x w) ↔ ∃ x, ∀ w ∈ fmPre n k left, SatW n x w := by
  have qpos : ∀ w : Wi, 0 < w.getD k 0 → (0 : Rat) < wq w k := fun w hw => by unfold wq; exact_mod_cast hw
  have qneg : ∀ w : Wi, w.getD k 0 < 0 → wq w k < (0 : Rat) := fun w hw => by unfold wq; exact_mod_cast hw
  constructor
  · rintro ⟨x, hx⟩
    refine ⟨x, fun w hw => ?_⟩
    rcases mem_pre.mp hw with h1 | ⟨one, two, h1, h2, rfl⟩
    · exact hx w h1.1
    · have o1 := h one h1.1
      have o2 := h two h2.1
      rw [join_eq, low_sat (raw_len o1.len o2.len)]
      obtain ⟨a1, a2⟩ := hx one h1.1
      obtain ⟨b1, b2⟩ := hx two h2.1
      have p1 := qpos one h1.2
      have p2 := qneg two h2.2
      unfold SatW
      rw [raw_sum o1.len o2.len, raw_bd o1.len o2.len, st_or o1 o2]
      have m1 := Rat.mul_le_mul_of_nonneg_left a1 (show (0 : Rat) ≤ - wq two k by grind)
      have m2 := Rat.mul_le_mul_of_nonneg_left b1 (Rat.le_of_lt p1)
      refine ⟨by grind, ?_⟩
      rintro (z | z)
      · have := Rat.mul_lt_mul_of_pos_left (a2 z) (show (0 : Rat) < - wq two k by grind); grind
      · have := Rat.mul_lt_mul_of_pos_left (b2 z) p1; grind
  · rintro ⟨x, hx⟩
    let r : Wi → Rat := fun w => sm n fun i => wq w i * (if i = k then 0 else x i)
    have rz : ∀ w : Wi, w.getD k 0 = 0 → sm n (fun i => wq w i * x i) = r w := fun w hw => sm_congr fun i hi => by
      by_cases e : i = k
      · subst e
        have : wq w i = 0 := by unfold wq; rw [hw]; rfl
        rw [this]; grind
      · rw [if_neg e]
    obtain ⟨t, t1, t2⟩ := between ((upsW k left).map fun w => ((wq w n - r w) / wq w k, decide (w.getD (n + 1) 0 ≠ 0))) ((dowW k left).map fun w => ((wq w n - r w) / wq w k, decide (w.getD (n + 1) 0 ≠ 0))) (fun u hu d hd => by
      obtain ⟨one, h1, rfl⟩ := List.mem_map.mp hu
      obtain ⟨two, h2, rfl⟩ := List.mem_map.mp hd
      have m1 := mem_ups.mp h1
      have m2 := mem_dow.mp h2
      have o1 := h one m1.1
      have o2 := h two m2.1
      have hj := hx _ (mem_pre.mpr (.inr ⟨one, two, m1, m2, rfl⟩))
      rw [join_eq, low_sat (raw_len o1.len o2.len)] at hj
      have zk : (rawW n k one two).getD k 0 = 0 := by rw [raw_lo o1.len o2.len (by omega), Int.zero_sub, Int.neg_mul, Int.mul_comm]; omega
      unfold SatW at hj
      rw [rz _ zk, st_or o1 o2, raw_bd o1.len o2.len] at hj
      have er : r (rawW n k one two) = (- wq two k) * r one + wq one k * r two := raw_sum (x := fun i => if i = k then 0 else x i) o1.len o2.len
      rw [er] at hj
      obtain ⟨g1, g2⟩ := join_gap (u := wq one k) (d := wq two k) (ru := r one) (rd := r two) (bu := wq one n) (bd := wq two n) (qpos one m1.2) (qneg two m2.2)
      refine ⟨g1.mp hj.1, fun z => g2.mp (hj.2 ?_)⟩
      simpa using z)
    refine ⟨fun i => if i = k then t else x i, fun w hw => ?_⟩
    have es : sm n (fun i => wq w i * (if i = k then t else x i)) = r w + wq w k * t := sm_upd hk
    unfold SatW
    rw [es]
    rcases Int.lt_trichotomy (w.getD k 0) 0 with c | c | c
    · obtain ⟨a, b⟩ := t2 _ (List.mem_map.mpr ⟨w, mem_dow.mpr ⟨hw, c⟩, rfl⟩)
      obtain ⟨d1, d2⟩ := div_dn (r := r w) (b := wq w n) (t := t) (qneg w c)
      exact ⟨d1.mp a, fun z => d2.mp (b (by simpa using z))⟩
    · have z0 : wq w k = 0 := by unfold wq; rw [c]; rfl
      have := hx w (mem_pre.mpr (.inl ⟨hw, c⟩))
      unfold SatW at this
      rw [rz w c] at this
      rw [z0, Rat.zero_mul, Rat.add_zero]
      exact this
    · obtain ⟨a, b⟩ := t1 _ (List.mem_map.mpr ⟨w, mem_ups.mpr ⟨hw, c⟩, rfl⟩)
      obtain ⟨d1, d2⟩ := div_up (r := r w) (b := wq w n) (t := t) (qpos w c)
      exact ⟨d1.mp a, fun z => d2.mp (b (by simpa using z))⟩

/-! ### one after the other -/
def fmSeq (n : Nat) (ws : List Wi) : Nat → List Wi
  | 0 => ssetL (ws.map (lowW n))
  | k + 1 => ssetL (fmPre n k (fmSeq n ws k))
theorem seq_ok {n : Nat} {ws : List Wi} (h : ∀ w ∈ ws, WzOk n w) : ∀ k, ∀ w ∈ fmSeq n ws k, WzOk n w
  | 0, w, hw => by
    obtain ⟨v, hv, rfl⟩ := List.mem_map.mp (mem_ssetL.mp hw)
    exact low_ok (h v hv)
  | k + 1, w, hw => pre_ok (seq_ok h k) w (mem_ssetL.mp hw)
theorem seq_sat {n : Nat} {ws : List Wi} (h : ∀ w ∈ ws, WzOk n w) : ∀ k, k ≤ n → ((∃ x, ∀ w ∈ ws, SatW n x w) ↔ ∃ x, ∀ w ∈ fmSeq n ws k, SatW n x w)
  | 0, _ => by
    refine exists_congr fun x => ⟨fun hx w hw => ?_, fun hx w hw => ?_⟩
    · obtain ⟨v, hv, rfl⟩ := List.mem_map.mp (mem_ssetL.mp hw)
      exact (low_sat (h v hv).len).mpr (hx v hv)
    · exact (low_sat (h w hw).len).mp (hx _ (mem_ssetL.mpr (List.mem_map.mpr ⟨w, hw, rfl⟩)))
  | k + 1, hk => by
    rw [seq_sat h k (by omega), pre_sat (k := k) (seq_ok h k) (by omega)]
    exact exists_congr fun x => ⟨fun hx w hw => hx w (mem_ssetL.mp hw), fun hx w hw => hx w (mem_ssetL.mpr hw)⟩
theorem seq_nought {n : Nat} {ws : List Wi} (h : ∀ w ∈ ws, WzOk n w) : ∀ k, k ≤ n → ∀ i, i < k → ∀ w ∈ fmSeq n ws k, w.getD i 0 = 0
  | 0, _, i, hi, _, _ => by omega
  | k + 1, hk, i, hi, w, hw => by
    refine pre_nought (i := i) (seq_ok h k) (by omega) ?_ w (mem_ssetL.mp hw)
    by_cases e : i = k
    · exact .inl e
    · exact .inr (seq_nought h k (by omega) i (by omega))
def voidW (n : Nat) (ws : List Wi) : Bool := (fmSeq n ws n).any fun w => decide (w.getD n 0 < w.getD (n + 1) 0)
theorem void_iff {n : Nat} {ws : List Wi} (h : ∀ w ∈ ws, WzOk n w) : voidW n ws = true ↔ ¬ ∃ x, ∀ w ∈ ws, SatW n x w := by
  rw [seq_sat h n (Nat.le_refl _)]
  have key : ∀ w ∈ fmSeq n ws n, ∀ x, SatW n x w ↔ ¬ w.getD n 0 < w.getD (n + 1) 0 := fun w hw x => by
    have z : sm n (fun i => wq w i * x i) = 0 := sm_zero fun i hi => by
      unfold wq
      rw [seq_nought h n (Nat.le_refl _) i hi w hw]
      exact Rat.zero_mul _
    unfold SatW
    rw [z]
    have st := (seq_ok h n w hw).st
    have c1 : (0 : Rat) ≤ wq w n ↔ (0 : Int) ≤ w.getD n 0 := by unfold wq; exact_mod_cast Iff.rfl
    have c2 : (0 : Rat) < wq w n ↔ (0 : Int) < w.getD n 0 := by unfold wq; exact_mod_cast Iff.rfl
    rw [c1, c2]
    omega
  unfold voidW
  rw [List.any_eq_true]
  constructor
  · rintro ⟨w, hw, q⟩ ⟨x, hx⟩
    exact (key w hw x).mp (hx w hw) (of_decide_eq_true q)
  · intro hn
    refine Classical.byContradiction fun hc => hn ⟨fun _ => 0, fun w hw => (key w hw _).mpr fun q => hc ⟨w, hw, decide_eq_true q⟩⟩

/-! ### how many there are -/
theorem insL_len (x : List Int) : ∀ l : List (List Int), (insL x l).length ≤ l.length + 1
  | [] => Nat.le_refl _
  | y :: ys => by
    unfold insL
    have := insL_len x ys
    split
    · omega
    · split
      · simp
      · simp only [List.length_cons]; omega
theorem ssetL_len : ∀ l : List (List Int), (ssetL l).length ≤ l.length
  | [] => Nat.le_refl _
  | x :: xs => by
    have h1 := insL_len x (ssetL xs)
    have h2 := ssetL_len xs
    rw [ssetL, List.length_cons]; omega
theorem parts_len (k : Nat) : ∀ left : List Wi, (zerW k left).length + (upsW k left).length + (dowW k left).length = left.length
  | [] => rfl
  | w :: left => by
    have ih := parts_len k left
    unfold zerW upsW dowW at *
    simp only [List.filter_cons]
    rcases Int.lt_trichotomy (w.getD k 0) 0 with c | c | c
    · have a1 : ¬ w.getD k 0 = 0 := by omega
      have a2 : ¬ 0 < w.getD k 0 := by omega
      simp only [a1, a2, c, decide_true, decide_false, if_true, if_false, List.length_cons, Bool.false_eq_true, Int.lt_irrefl]; omega
    · have a1 : ¬ w.getD k 0 < 0 := by omega
      have a2 : ¬ 0 < w.getD k 0 := by omega
      simp only [a1, a2, c, decide_true, decide_false, if_true, if_false, List.length_cons, Bool.false_eq_true, Int.lt_irrefl]; omega
    · have a1 : ¬ w.getD k 0 = 0 := by omega
      have a2 : ¬ w.getD k 0 < 0 := by omega
      simp only [a1, a2, c, decide_true, decide_false, if_true, if_false, List.length_cons, Bool.false_eq_true, Int.lt_irrefl]; omega
theorem flat_len {α : Type} (f : α → List Wi) (m : Nat) : ∀ l : List α, (∀ a ∈ l, (f a).length = m) → (l.flatMap f).length = l.length * m
  | [], _ => by simp
  | a :: l, h => by
    rw [List.flatMap_cons, List.length_append, h a List.mem_cons_self, flat_len f m l fun b hb => h b (List.mem_cons_of_mem _ hb), List.length_cons, Nat.add_mul]
    omega
theorem pre_len (n k : Nat) (left : List Wi) : (fmPre n k left).length = (zerW k left).length + (upsW k left).length * (dowW k left).length := by
  unfold fmPre
  rw [List.length_append, flat_len _ (dowW k left).length _ fun a _ => List.length_map _]
theorem num7 : ∀ z, z < 8 → ∀ p, p < 8 → ∀ q, q < 8 → z + p + q ≤ 7 → z + p * q ≤ 12 := by decide +kernel
theorem num12 : ∀ z, z < 13 → ∀ p, p < 13 → ∀ q, q < 13 → z + p + q ≤ 12 → z + p * q ≤ 36 := by decide +kernel
theorem seq_len {n k a b : Nat} {ws : List Wi} (h : (fmSeq n ws k).length ≤ a) (num : ∀ z, z < a + 1 → ∀ p, p < a + 1 → ∀ q, q < a + 1 → z + p + q ≤ a → z + p * q ≤ b) : (fmSeq n ws (k + 1)).length ≤ b := by
  have e : fmSeq n ws (k + 1) = ssetL (fmPre n k (fmSeq n ws k)) := rfl
  rw [e]
  refine Nat.le_trans (ssetL_len _) ?_
  rw [pre_len]
  have := parts_len k (fmSeq n ws k)
  exact num _ (by omega) _ (by omega) _ (by omega) (by omega)
theorem len7 {n : Nat} {ws : List Wi} (h : ws.length ≤ 7) : (fmSeq n ws 0).length ≤ 7 ∧ (fmSeq n ws 1).length ≤ 12 ∧ (fmSeq n ws 2).length ≤ 36 := by
  have h0 : (fmSeq n ws 0).length ≤ 7 := Nat.le_trans (ssetL_len _) (by rw [List.length_map]; exact h)
  have h1 := seq_len h0 num7
  exact ⟨h0, h1, seq_len h1 num12⟩
/-- all in a sequence are lowered -/
theorem seq_lowered {n : Nat} {ws : List Wi} (h : ∀ w ∈ ws, WzOk n w) : ∀ k, ∀ w ∈ fmSeq n ws k, LoW n w ∨ ∀ i, i ≤ n → w.getD i 0 = 0
  | 0, w, hw => by
    obtain ⟨v, hv, rfl⟩ := List.mem_map.mp (mem_ssetL.mp hw)
    exact low_lowered (h v hv).len
  | k + 1, w, hw => by
    rcases mem_pre.mp (mem_ssetL.mp hw) with h1 | ⟨one, two, h1, h2, rfl⟩
    · exact seq_lowered h k w h1.1
    · rw [join_eq]
      exact low_lowered (raw_len (seq_ok h k one h1.1).len (seq_ok h k two h2.1).len)
theorem list_getD {w : Wi} {n : Nat} (hl : w.length = n + 2) (z : ∀ i, i < n → w.getD i 0 = 0) : w = List.replicate n 0 ++ [w.getD n 0, w.getD (n + 1) 0] := by
  refine List.ext_getElem? fun i => ?_
  by_cases h1 : i < n
  · rw [List.getElem?_append_left (by simpa using h1), List.getElem?_replicate, if_pos h1]
    have := z i h1
    rw [List.getD_eq_getElem?_getD, List.getElem?_eq_getElem (show i < w.length by omega)] at this
    rw [List.getElem?_eq_getElem (show i < w.length by omega)]
    simpa using this
  · rw [List.getElem?_append_right (by simpa using h1), List.length_replicate]
    by_cases h2 : i = n
    · subst h2
      rw [Nat.sub_self, List.getElem?_eq_getElem (show i < w.length by omega), List.getD_eq_getElem?_getD, List.getElem?_eq_getElem (show i < w.length by omega)]
      rfl
    · by_cases h3 : i = n + 1
      · subst h3
        rw [show n + 1 - n = 1 by omega, List.getElem?_eq_getElem (show n + 1 < w.length by omega), List.getD_eq_getElem?_getD (i := n + 1), List.getElem?_eq_getElem (show n + 1 < w.length by omega)]
        rfl
      · rw [List.getElem?_eq_none (by omega), List.getElem?_eq_none (by simp; omega)]
/-- behind the last unknown there are six at most -/
theorem last_len {n : Nat} {ws : List Wi} (h : ∀ w ∈ ws, WzOk n w) : (fmSeq n ws n).length ≤ 6 := by
  have nd : (fmSeq n ws n).Nodup := by
    cases n with
    | zero => exact so_nodup (so_ssetL _)
    | succ m => exact so_nodup (so_ssetL _)
  refine nodup_sub (N := [(-1, 0), (0, 0), (1, 0), (-1, 1), (0, 1), (1, 1)].map fun (p : Int × Int) => List.replicate n 0 ++ [p.1, p.2]) nd fun w hw => ?_
  have ok := seq_ok h n w hw
  have z := seq_nought h n (Nat.le_refl _)
  have e := list_getD ok.len fun i hi => z i hi w hw
  have b : w.getD n 0 = -1 ∨ w.getD n 0 = 0 ∨ w.getD n 0 = 1 := by
    rcases seq_lowered h n w hw with q | q
    · have := q (w.getD n 0).natAbs fun i hi => by
        by_cases hn : i = n
        · rw [hn]; exact Nat.dvd_refl _
        · rw [z i (by omega) w hw]; exact Nat.dvd_zero _
      omega
    · exact .inr (.inl (q n (Nat.le_refl _)))
  rw [e]
  rcases b with b | b | b <;> rcases ok.st with s | s <;> rw [b, s] <;> simp
/-- few at each turn -/
def FewW (n : Nat) (ws : List Wi) : Prop := ∀ k, k ≤ n → (fmSeq n ws k).length < 62
theorem few7 {n : Nat} {ws : List Wi} (h : ∀ w ∈ ws, WzOk n w) (hl : ws.length ≤ 7) (hn : n ≤ 3) : FewW n ws := fun k hk => by
  obtain ⟨a, b, c⟩ := len7 (n := n) hl
  by_cases e : k = n
  · subst e; have := last_len h; omega
  · have : k = 0 ∨ k = 1 ∨ k = 2 := by omega
    rcases this with rfl | rfl | rfl <;> omega

/-! ### how great the numbers are -/
def BtW (b : Nat) (w : Wi) : Prop := ∀ e ∈ w, Bt b e
theorem BtW.mono {a b : Nat} {w : Wi} (h : BtW a w) (l : a ≤ b) : BtW b w := fun e he => (h e he).mono l
theorem BtW.at_ {b : Nat} {w : Wi} (h : BtW b w) (i : Nat) : Bt b (w.getD i 0) := by
  rw [List.getD_eq_getElem?_getD]
  cases e : w[i]? with
  | none => exact Nat.pow_pos (by decide)
  | some x => exact h x (List.mem_of_getElem? e)
theorem low_bt {b n : Nat} {w : Wi} (h : BtW b w) : BtW b (lowW n w) := by
  unfold lowW
  split
  · exact h
  · intro e he
    rcases List.mem_append.mp he with he | he
    · obtain ⟨x, hx, rfl⟩ := List.mem_map.mp he
      have hx' := h x (List.mem_of_mem_take hx)
      unfold Bt at *
      have e1 := gcL_dvdI hx
      obtain ⟨c, hc⟩ := e1
      rename_i hg
      have g0 : (gcL (w.take (n + 1)) : Int) ≠ 0 := by omega
      rw [hc, Int.mul_ediv_cancel_left _ g0]
      rw [hc, Int.natAbs_mul, Int.natAbs_natCast] at hx'
      have : c.natAbs ≤ gcL (w.take (n + 1)) * c.natAbs := Nat.le_mul_of_pos_left _ (by omega)
      omega
    · exact h e (List.mem_of_mem_drop he)
theorem raw_bt {b n k : Nat} {one two : Wi} (hb : 0 < b) (h1 : BtW b one) (h2 : BtW b two) (s1 : WzOk n one) (s2 : WzOk n two) : BtW (2 * b + 1) (rawW n k one two) := by
  intro e he
  unfold rawW at he
  rcases List.mem_append.mp he with he | he
  · obtain ⟨i, hi⟩ := List.getElem?_of_mem he
    have hl := lt_of_get hi
    rw [List.getElem?_eq_getElem hl] at hi
    cases hi
    simp only [List.getElem_zipWith]
    have b1 := h1 _ (List.mem_of_mem_take (List.getElem_mem (l := one.take (n + 1)) (n := i) (by simp at hl ⊢; omega)))
    have b2 := h2 _ (List.mem_of_mem_take (List.getElem_mem (l := two.take (n + 1)) (n := i) (by simp at hl ⊢; omega)))
    have n1 : Bt b (0 - two.getD k 0) := by rw [Int.zero_sub]; exact (h2.at_ k).neg
    have := ((n1.mul b1).add ((h1.at_ k).mul b2))
    rwa [show b + b + 1 = 2 * b + 1 by omega] at this
  · rw [List.mem_singleton.mp he]
    have : max (one.getD (n + 1) 0) (two.getD (n + 1) 0) = 0 ∨ max (one.getD (n + 1) 0) (two.getD (n + 1) 0) = 1 := by
      rcases s1.st with a | a <;> rcases s2.st with c | c <;> rw [a, c] <;> decide
    unfold Bt
    have p : 2 ^ 1 ≤ 2 ^ (2 * b + 1) := Nat.pow_le_pow_right (by decide) (by omega)
    rcases this with q | q <;> rw [q] <;> simp <;> omega
/-- the bits of a sequence -/
def bsW (b : Nat) : Nat → Nat
  | 0 => b
  | k + 1 => 2 * bsW b k + 1
theorem bsW_pos {b : Nat} (h : 0 < b) : ∀ k, 0 < bsW b k
  | 0 => h
  | k + 1 => by unfold bsW; omega
theorem seq_bt {b n : Nat} {ws : List Wi} (hb : 0 < b) (h : ∀ w ∈ ws, WzOk n w) (hB : ∀ w ∈ ws, BtW b w) : ∀ k, ∀ w ∈ fmSeq n ws k, BtW (bsW b k) w
  | 0, w, hw => by
    obtain ⟨v, hv, rfl⟩ := List.mem_map.mp (mem_ssetL.mp hw)
    exact low_bt (hB v hv)
  | k + 1, w, hw => by
    have ih := seq_bt hb h hB k
    rcases mem_pre.mp (mem_ssetL.mp hw) with h1 | ⟨one, two, h1, h2, rfl⟩
    · exact (ih w h1.1).mono (by show _ ≤ 2 * bsW b k + 1; omega)
    · rw [join_eq]
      exact low_bt (raw_bt (bsW_pos hb k) (ih one h1.1) (ih two h2.1) (seq_ok h k one h1.1) (seq_ok h k two h2.1))

theorem bsW_mono {b n : Nat} : ∀ j, j ≤ n → bsW b j ≤ bsW b n := by
  induction n with
  | zero => intro j hj; rw [show j = 0 by omega]; exact Nat.le_refl _
  | succ n ih =>
    intro j hj
    by_cases e : j = n + 1
    · rw [e]; exact Nat.le_refl _
    · have := ih j (by omega)
      show bsW b j ≤ 2 * bsW b n + 1
      omega
theorem gcL_bt {b n : Nat} {w : Wi} (h : BtW b w) (hg : ¬ gcL (w.take (n + 1)) < 2) : Bt b ((gcL (w.take (n + 1)) : Nat) : Int) := by
  refine Classical.byContradiction fun hc => ?_
  have all0 : ∀ e ∈ w.take (n + 1), e.natAbs = 0 := fun e he => by
    have d := gcL_dvd he
    have hb := h e (List.mem_of_mem_take he)
    unfold Bt at hb hc
    rw [Int.natAbs_natCast] at hc
    by_cases z : e.natAbs = 0
    · exact z
    · have := Nat.le_of_dvd (by omega) d; omega
  have : ∀ (l : List Int) (g : Nat), (∀ e ∈ l, e.natAbs = 0) → gcF g l = g := by
    intro l
    induction l with
    | nil => intro g _; rfl
    | cons a l ih =>
      intro g hl
      show gcF (Nat.gcd g a.natAbs) l = g
      rw [hl a List.mem_cons_self, Nat.gcd_zero_right]
      exact ih g fun e he => hl e (List.mem_cons_of_mem _ he)
  have := this (w.take (n + 1)) 0 all0
  have e : gcL (w.take (n + 1)) = 0 := this
  omega

/-! ### wishes in whole numbers as data -/
def wiD (w : Wi) : D := .tuple (w.map PyData.int)
theorem wi_at {w : Wi} {i : Nat} (h : i < w.length) : ixD (wiD w) (.int (i : Int)) = some (.int (w.getD i 0)) := by
  show L2.atI (w.map PyData.int) (i : Int) = _
  unfold L2.atI L2.ixN
  rw [if_pos (by omega), if_pos (by rw [List.length_map]; omega)]
  simp [h]
theorem wi_last {w : Wi} {n : Nat} (hl : w.length = n + 2) : ixD (wiD w) (.int (-1)) = some (.int (w.getD (n + 1) 0)) := by
  show L2.atI (w.map PyData.int) (-1) = _
  have e : L2.ixN (w.map PyData.int).length (-1) = some (n + 1) := by
    unfold L2.ixN
    rw [if_neg (by decide), List.length_map, hl, if_pos (by omega)]
    congr 1
    omega
  unfold L2.atI
  rw [e]
  simp [hl]
theorem wi_front {w : Wi} {n : Nat} (hl : w.length = n + 2) : slD (wiD w) none (some (-1)) = some (.tuple ((w.take (n + 1)).map PyData.int)) := by
  unfold wiD
  rw [sl_t]
  unfold cutD
  have h1 : HT.sIx (w.map PyData.int).length 0 none = 0 := rfl
  have h2 : HT.sIx (w.map PyData.int).length (w.map PyData.int).length (some (-1)) = n + 1 := by
    unfold HT.sIx
    dsimp only
    rw [if_pos (by decide), List.length_map, hl]; omega
  rw [h1, h2, List.drop_zero, Nat.sub_zero, List.map_take]
theorem wi_back {w : Wi} {n : Nat} (hl : w.length = n + 2) : slD (wiD w) (some (-1)) none = some (.tuple ((w.drop (n + 1)).map PyData.int)) := by
  unfold wiD
  rw [sl_t]
  unfold cutD
  have h1 : HT.sIx (w.map PyData.int).length (w.map PyData.int).length none = n + 2 := by rw [HT.sIx_none, List.length_map, hl]
  have h2 : HT.sIx (w.map PyData.int).length 0 (some (-1)) = n + 1 := by
    unfold HT.sIx
    dsimp only
    rw [if_pos (by decide), List.length_map, hl]; omega
  rw [h1, h2, List.map_drop]
  rw [List.take_of_length_le (by simp [hl])]
theorem ints_wi : ∀ w : List Int, intsD (w.map PyData.int) = some w
  | [] => rfl
  | a :: w => by simp only [List.map_cons, intsD, ints_wi w, Option.map_some]
theorem tups_wi : ∀ ws : List Wi, tupIs (ws.map wiD) = some ws
  | [] => rfl
  | w :: ws => by
    have e : tupI (wiD w) = some w := ints_wi w
    simp only [List.map_cons, tupIs, e, tups_wi ws, Option.bind_some, Option.map_some]
theorem ss_wi {n : Nat} (ws : List Wi) (h : ∀ w ∈ ws, w.length = n + 2) (few : (ssetL ws).length < 62) : ssD [.list (ws.map wiD)] = some (.list ((ssetL ws).map wiD)) := by
  have sl : sameLen ws = true := by
    cases ws with
    | nil => rfl
    | cons w ws =>
      have h0 := h w List.mem_cons_self
      simp only [sameLen, Bool.and_eq_true, decide_eq_true_eq, List.all_eq_true]
      exact ⟨by omega, fun y hy => by rw [h y (List.mem_cons_of_mem _ hy), h0]⟩
  simp only [ssD, tups_wi, Option.bind_some, sl, Bool.true_and, decide_eq_true_eq]
  rw [if_pos few]
  rfl
theorem filter_fm {p : Wi → Prop} [DecidablePred p] (ws : List Wi) : ws.filterMap (fun w => if p w then some (wiD w) else none) = (ws.filter fun w => decide (p w)).map wiD := by
  induction ws with
  | nil => rfl
  | cons w ws ih =>
    rw [List.filterMap_cons, List.filter_cons]
    by_cases h : p w
    · simp [h, ih]
    · simp [h, ih]

/-! ### a wish in whole numbers -/
def lcL (l : List Rat) : Nat := l.foldl (fun t q => t / Nat.gcd t q.den * q.den) 1
def lcF' (t : Nat) (l : List Rat) : Nat := l.foldl (fun t q => t / Nat.gcd t q.den * q.den) t
theorem lc_step (t d : Nat) : t / Nat.gcd t d * d = Nat.lcm t d := by
  unfold Nat.lcm
  exact Nat.div_mul_right_comm (Nat.gcd_dvd_left t d) d
theorem lcF_dvd : ∀ (l : List Rat) (t : Nat), t ∣ lcF' t l ∧ ∀ q ∈ l, q.den ∣ lcF' t l
  | [], t => ⟨Nat.dvd_refl _, fun _ h => by cases h⟩
  | q :: l, t => by
    obtain ⟨h1, h2⟩ := lcF_dvd l (t / Nat.gcd t q.den * q.den)
    have e : lcF' t (q :: l) = lcF' (t / Nat.gcd t q.den * q.den) l := rfl
    rw [e]
    rw [lc_step] at h1 h2 ⊢
    refine ⟨Nat.dvd_trans (Nat.dvd_lcm_left _ _) h1, fun p hp => ?_⟩
    rcases List.mem_cons.mp hp with rfl | hp
    · exact Nat.dvd_trans (Nat.dvd_lcm_right _ _) h1
    · exact h2 p hp
theorem lcF_of (M : Nat) : ∀ (l : List Rat) (t : Nat), t ∣ M → (∀ q ∈ l, q.den ∣ M) → lcF' t l ∣ M
  | [], t, h, _ => h
  | q :: l, t, h, k => by
    have e : lcF' t (q :: l) = lcF' (t / Nat.gcd t q.den * q.den) l := rfl
    rw [e, lc_step]
    exact lcF_of M l _ (Nat.lcm_dvd h (k q List.mem_cons_self)) fun p hp => k p (List.mem_cons_of_mem _ hp)
theorem lcL_den {l : List Rat} {q : Rat} (h : q ∈ l) : q.den ∣ lcL l := (lcF_dvd l 1).2 q h
theorem lcL_of {M : Nat} {l : List Rat} (h : ∀ q ∈ l, q.den ∣ M) : lcL l ∣ M := lcF_of M l 1 (Nat.one_dvd _) h
theorem lcF_pos : ∀ (l : List Rat) (t : Nat), 0 < t → 0 < lcF' t l
  | [], t, h => h
  | q :: l, t, h => by
    have e : lcF' t (q :: l) = lcF' (t / Nat.gcd t q.den * q.den) l := rfl
    rw [e, lc_step]
    exact lcF_pos l _ (Nat.lcm_pos h (Nat.pos_of_ne_zero q.den_nz))
theorem lcL_pos (l : List Rat) : 0 < lcL l := lcF_pos l 1 (by decide)
def wholeW (row : List Rat) (bound : Rat) (s : Int) : Wi := (row ++ [bound]).map (fun q => q.num * ((lcL (row ++ [bound]) : Int) / (q.den : Int))) ++ [s]
theorem whole_at {l : List Rat} {q : Rat} (h : q ∈ l) : ((q.num * ((lcL l : Int) / (q.den : Int)) : Int) : Rat) = (lcL l : Int) * q := by
  obtain ⟨c, hc⟩ := lcL_den h
  have hd := den_ne q
  rw [hc]
  have e : ((q.den * c : Nat) : Int) / (q.den : Int) = c := by rw [Int.natCast_mul, Int.mul_ediv_cancel_left _ hd]
  rw [e]
  have hq : (q.den : Rat) * q = q.num := by
    have h : (q.num : Rat) / (q.den : Int) = q := by rw [← Rat.divInt_eq_div]; exact Rat.num_divInt_den q
    have d : ((q.den : Int) : Rat) ≠ 0 := by have := q.den_nz; exact_mod_cast this
    have := Rat.div_mul_cancel (a := (q.num : Rat)) d
    rw [h] at this
    have e : ((q.den : Int) : Rat) = (q.den : Rat) := rfl
    rw [e] at this
    rw [Rat.mul_comm]; exact this
  rw [Rat.intCast_mul]
  have e2 : (((q.den * c : Nat) : Int) : Rat) = (q.den : Rat) * (c : Rat) := by
    rw [Int.natCast_mul, Rat.intCast_mul]; rfl
  rw [e2, ← hq]
  have e3 : (((c : Nat) : Int) : Rat) = (c : Rat) := rfl
  rw [e3]
  grind
theorem whole_len (row : List Rat) (bound : Rat) (s : Int) : (wholeW row bound s).length = row.length + 2 := by simp [wholeW]
theorem whole_ok {row : List Rat} {bound : Rat} {s : Int} (hs : s = 0 ∨ s = 1) : WzOk row.length (wholeW row bound s) := by
  refine ⟨whole_len row bound s, ?_⟩
  have e : (wholeW row bound s).getD (row.length + 1) 0 = s := by
    unfold wholeW
    rw [List.getD_eq_getElem?_getD, List.getElem?_append_right (by simp)]
    simp
  rw [e]; exact hs
theorem whole_st (row : List Rat) (bound : Rat) (s : Int) : (wholeW row bound s).getD (row.length + 1) 0 = s := by
  unfold wholeW
  rw [List.getD_eq_getElem?_getD, List.getElem?_append_right (by simp)]
  simp
theorem whole_q {row : List Rat} {bound : Rat} {s : Int} {i : Nat} (hi : i ≤ row.length) : wq (wholeW row bound s) i = (lcL (row ++ [bound]) : Int) * (row ++ [bound]).getD i 0 := by
  have l : i < (row ++ [bound]).length := by simp; omega
  unfold wq wholeW
  rw [List.getD_eq_getElem?_getD, List.getElem?_append_left (by simp; omega), List.getElem?_map, List.getElem?_eq_getElem l]
  simp only [Option.map_some, Option.getD_some]
  rw [whole_at (List.getElem_mem l), List.getD_eq_getElem?_getD, List.getElem?_eq_getElem l]
  rfl
theorem whole_sat {row : List Rat} {bound : Rat} {s : Int} {x : Nat → Rat} : SatW row.length x (wholeW row bound s) ↔ sm row.length (fun i => row.getD i 0 * x i) ≤ bound ∧ (s ≠ 0 → sm row.length (fun i => row.getD i 0 * x i) < bound) := by
  have t0 : (0 : Rat) < ((lcL (row ++ [bound]) : Int) : Rat) := by
    have := lcL_pos (row ++ [bound])
    have h : (0 : Int) < (lcL (row ++ [bound]) : Int) := by omega
    exact_mod_cast h
  have es : sm row.length (fun i => wq (wholeW row bound s) i * x i) = (lcL (row ++ [bound]) : Int) * sm row.length (fun i => row.getD i 0 * x i) := by
    rw [← sm_mul]
    refine sm_congr fun i hi => ?_
    rw [whole_q (by omega), Rat.mul_assoc]
    congr 2
    rw [List.getD_eq_getElem?_getD, List.getElem?_append_left hi, List.getD_eq_getElem?_getD]
  have eb : wq (wholeW row bound s) row.length = (lcL (row ++ [bound]) : Int) * bound := by
    rw [whole_q (Nat.le_refl _)]
    congr 1
    rw [List.getD_eq_getElem?_getD, List.getElem?_append_right (Nat.le_refl _)]
    simp
  unfold SatW
  rw [es, eb, whole_st]
  generalize sm row.length (fun i => row.getD i 0 * x i) = a
  generalize ((lcL (row ++ [bound]) : Int) : Rat) = g at *
  have h1 : a ≤ bound ↔ g * a ≤ g * bound := ⟨fun q => Rat.mul_le_mul_of_nonneg_left q (Rat.le_of_lt t0), fun q => Rat.le_of_mul_le_mul_left q t0⟩
  have h2 : a < bound ↔ g * a < g * bound := ⟨fun q => Rat.mul_lt_mul_of_pos_left q t0, fun q => Rat.lt_of_mul_lt_mul_left q (Rat.le_of_lt t0)⟩
  rw [← h1, ← h2]
theorem qb_parts {j m : Nat} {q : Rat} (h : Qb j m q) : q.den ∣ 5040 ^ j ∧ q.num.natAbs * (5040 ^ j / q.den) ≤ 2 ^ m * 5040 ^ j := by
  obtain ⟨n, rfl, hn⟩ := h
  have h0 := p5040 j
  have hg0 : Nat.gcd (5040 ^ j) n.natAbs ≠ 0 := by
    have := Nat.gcd_pos_of_pos_left n.natAbs (Nat.pos_of_ne_zero h0)
    omega
  rw [Rat.den_mkRat, if_neg h0, Rat.num_mkRat, if_neg h0]
  have gd := Nat.gcd_dvd_left (5040 ^ j) n.natAbs
  have gn := Nat.gcd_dvd_right (5040 ^ j) n.natAbs
  generalize 5040 ^ j = M at *
  generalize hgg : Nat.gcd M n.natAbs = g at *
  obtain ⟨c, rfl⟩ := gd
  obtain ⟨e, he⟩ := gn
  have g1 : 0 < g := by omega
  have c0 : 0 < c := by
    rcases Nat.eq_zero_or_pos c with z | z
    · subst z; simp at h0
    · exact z
  rw [Nat.mul_div_cancel_left _ g1]
  refine ⟨Nat.dvd_mul_left _ _, ?_⟩
  have e1 : (n / (g : Int)).natAbs = e := by
    have : (g : Int) ∣ n := Int.ofNat_dvd_left.mpr ⟨e, he⟩
    obtain ⟨f, rfl⟩ := this
    rw [Int.mul_ediv_cancel_left _ (by omega)]
    rw [Int.natAbs_mul, Int.natAbs_natCast] at he
    exact Nat.eq_of_mul_eq_mul_left g1 he
  rw [e1, Nat.mul_div_cancel _ c0, Nat.mul_comm e g, ← he]
  exact hn
theorem whole_bt {j m : Nat} {row : List Rat} {bound : Rat} {s : Int} (hr : ∀ q ∈ row, Qb j m q) (hb : Qb j m bound) (hs : s = 0 ∨ s = 1) : BtW (m + 13 * j + 1) (wholeW row bound s) := by
  have all : ∀ q ∈ row ++ [bound], Qb j m q := fun q hq => (List.mem_append.mp hq).elim (hr q) fun h => by rw [List.mem_singleton.mp h]; exact hb
  intro e he
  unfold wholeW at he
  rcases List.mem_append.mp he with he | he
  · obtain ⟨q, hq, rfl⟩ := List.mem_map.mp he
    obtain ⟨hd, hn⟩ := qb_parts (all q hq)
    have lc := lcL_of (M := 5040 ^ j) fun p hp => (qb_parts (all p hp)).1
    have l2 := Nat.le_of_dvd (Nat.pos_of_ne_zero (p5040 j)) lc
    unfold Bt
    rw [Int.natAbs_mul]
    have e1 : ((lcL (row ++ [bound]) : Int) / (q.den : Int)).natAbs = lcL (row ++ [bound]) / q.den := by
      rw [← Int.natCast_ediv, Int.natAbs_natCast]
    rw [e1]
    have h3 : lcL (row ++ [bound]) / q.den ≤ 5040 ^ j / q.den := Nat.div_le_div_right l2
    have h4 := Nat.mul_le_mul_left q.num.natAbs h3
    have h5 : 5040 ^ j ≤ 2 ^ (13 * j) := by rw [Nat.pow_mul]; exact Nat.pow_le_pow_left (by decide) j
    have h6 := Nat.mul_le_mul_left (2 ^ m) h5
    rw [← Nat.pow_add] at h6
    have h7 : 2 ^ (m + 13 * j) < 2 ^ (m + 13 * j + 1) := Nat.pow_lt_pow_right (by decide) (by omega)
    omega
  · rw [List.mem_singleton.mp he]
    have p : 2 ^ 1 ≤ 2 ^ (m + 13 * j + 1) := Nat.pow_le_pow_right (by decide) (by omega)
    unfold Bt
    rcases hs with q | q <;> rw [q] <;> simp <;> omega
end Sx
namespace Sx
open PySem PySem.Spec Lp
def wF (w : Wish) (i : Nat) : Rat := w.r.getD i 0
theorem wish_rw {s : Nat} {w : Wish} (h : w.r.length = s) : wishD w = .tuple [rwD s (wF w), fr w.b] := by
  unfold wishD
  rw [rowD_rw, h]
  rfl
/-- a row lies in a lot, wish by wish -/
def InM (s : Nat) (ws : List Wish) (y : Nat → Rat) : Prop := ∀ w ∈ ws, sm s (fun i => wF w i * y i) ≤ w.b
theorem inM_iff {s : Nat} {ws : List Wish} {y : Nat → Rat} : InM s ws y ↔ InL ws.length s (wA ws) (wB ws) y := by
  constructor
  · intro h c hc
    exact h _ (wget hc)
  · intro h w hw
    obtain ⟨c, hc, e⟩ := List.mem_iff_getElem.mp hw
    have := h c hc
    unfold wA wB at this
    rw [List.getD_eq_getElem?_getD (l := ws), List.getElem?_eq_getElem hc] at this
    rw [← e]
    exact this
/-- a lot's wishes are void if no row keeps them -/
theorem void_lot {s : Nat} {ws : List Wish} (hl : ∀ w ∈ ws, w.r.length = s) : voidW s (ws.map fun w => wholeW w.r w.b 0) = true ↔ ¬ ∃ y, InM s ws y := by
  rw [void_iff fun w hw => by
    obtain ⟨v, hv, rfl⟩ := List.mem_map.mp hw
    have := whole_ok (row := v.r) (bound := v.b) (s := 0) (.inl rfl)
    rwa [hl v hv] at this]
  refine not_congr (exists_congr fun x => ⟨fun h w hw => ?_, fun h w hw => ?_⟩)
  · have := h _ (List.mem_map.mpr ⟨w, hw, rfl⟩)
    rw [← hl w hw, whole_sat] at this
    rw [← hl w hw]
    exact this.1
  · obtain ⟨v, hv, rfl⟩ := List.mem_map.mp hw
    have := h v hv
    rw [← hl v hv] at this ⊢
    rw [whole_sat]
    exact ⟨this, fun z => absurd rfl z⟩
/-- a row and a bound: no row of the lot is above it -/
theorem void_bound {s : Nat} {ws : List Wish} {row : List Rat} {bound : Rat} (hl : ∀ w ∈ ws, w.r.length = s) (hr : row.length = s) :
    voidW s ((ws.map fun w => wholeW w.r w.b 0) ++ [wholeW (row.map (- ·)) (-bound) 1]) = true ↔ ∀ y, InM s ws y → sm s (fun i => row.getD i 0 * y i) ≤ bound := by
  have rl : (row.map (- ·)).length = s := by rw [List.length_map, hr]
  rw [void_iff fun w hw => by
    rcases List.mem_append.mp hw with hw | hw
    · obtain ⟨v, hv, rfl⟩ := List.mem_map.mp hw
      have := whole_ok (row := v.r) (bound := v.b) (s := 0) (.inl rfl)
      rwa [hl v hv] at this
    · rw [List.mem_singleton.mp hw]
      have := whole_ok (row := row.map (- ·)) (bound := -bound) (s := 1) (.inr rfl)
      rwa [rl] at this]
  have neg : ∀ y : Nat → Rat, sm s (fun i => (row.map (- ·)).getD i 0 * y i) = - sm s fun i => row.getD i 0 * y i := fun y => by
    have e : (fun i => (row.map (- ·)).getD i 0 * y i) = fun i => (-1) * (row.getD i 0 * y i) := by
      funext i
      have : (row.map (- ·)).getD i 0 = - row.getD i 0 := by
        rw [List.getD_eq_getElem?_getD, List.getElem?_map, List.getD_eq_getElem?_getD]
        cases row[i]? with
        | none => exact Rat.neg_zero.symm
        | some q => rfl
      rw [this]; grind
    rw [e, sm_mul]; grind
  have sat1 : ∀ y, SatW s y (wholeW (row.map (- ·)) (-bound) 1) ↔ bound < sm s fun i => row.getD i 0 * y i := fun y => by
    have h := whole_sat (row := row.map (- ·)) (bound := -bound) (s := 1) (x := y)
    rw [rl, neg y] at h
    rw [h]
    generalize sm s (fun i => row.getD i 0 * y i) = a
    constructor
    · rintro ⟨_, h2⟩
      have := h2 (by decide); grind
    · intro h; exact ⟨by grind, fun _ => by grind⟩
  have sat0 : ∀ y, (∀ w ∈ ws.map (fun w => wholeW w.r w.b 0), SatW s y w) ↔ InM s ws y := fun y => by
    constructor
    · intro h w hw
      have := h _ (List.mem_map.mpr ⟨w, hw, rfl⟩)
      rw [← hl w hw, whole_sat] at this
      rw [← hl w hw]
      exact this.1
    · intro h w hw
      obtain ⟨v, hv, rfl⟩ := List.mem_map.mp hw
      have := h v hv
      rw [← hl v hv] at this ⊢
      rw [whole_sat]
      exact ⟨this, fun z => absurd rfl z⟩
  constructor
  · intro h y hy
    refine Classical.byContradiction fun hc => h ⟨y, fun w hw => ?_⟩
    rcases List.mem_append.mp hw with hw | hw
    · exact (sat0 y).mpr hy w hw
    · rw [List.mem_singleton.mp hw, sat1]; grind
  · rintro h ⟨y, hy⟩
    have h1 := h y ((sat0 y).mp fun w hw => hy w (List.mem_append_left _ hw))
    have h2 := (sat1 y).mp (hy _ (List.mem_append_right _ (List.mem_singleton.mpr rfl)))
    grind
end Sx
set_option Elab.async false
set_option linter.all false
set_option maxRecDepth 100000
set_option maxHeartbeats 4000000
namespace Lw
open PySem PySem.Spec Sx
--@ is_whole
theorem r_is_whole (k : Nat) (S : Store) (d : D) : runF Pf Gc (k + 1) "is_whole" [.d d] S = .ok (.d (.bool (wholeB d))) S := by
  rw [run_fn p_is_whole rfl]
  cases d <;> simp -implicitDefEqProofs [fn_is_whole, tyOf, wholeB]
--@ is_between
theorem r_is_between (k : Nat) (S : Store) (d : D) (a b : Int) : runF Pf Gc (k + 2) "is_between" [.d d, .d (.int a), .d (.int b)] S = .ok (.d (.bool (betweenB d a b))) S := by
  rw [run_fn p_is_between rfl]
  cases d <;> simp -implicitDefEqProofs [fn_is_between, r_is_whole, betweenB, wholeB]
  rename_i n
  by_cases h : a ≤ n <;> simp -implicitDefEqProofs [h]
--@ are_wholes
theorem r_are_wholes (k : Nat) (S : Store) (d : D) (many : Int) (hm : many ≤ 16777216) : runF Pf Gc (k + 2) "are_wholes" [.d d, .d (.int many)] S = .ok (.d (.bool (wholesB many d))) S := by
  rw [run_fn p_are_wholes rfl]
  cases d <;> simp -implicitDefEqProofs [fn_are_wholes, tyOf, wholesB]
  rename_i ds
  by_cases h : (ds.length : Int) = many
  · simp -implicitDefEqProofs [h]
    rw [lc_map (xs := ds) (g := fun x => .bool (wholeB x)) (by simp -implicitDefEqProofs) (fun x hx acc => by simp -implicitDefEqProofs [lcStep, wipeE, r_is_whole]) (by omega)]
    simp -implicitDefEqProofs
  · have h' : ((ds.length : Int) == many) = false := by rw [beq_eq_false_iff_ne]; exact h
    simp -implicitDefEqProofs [h, h']
--@ divisor_of
theorem r_divisor_of (k : Nat) (S : Store) (a b : Int) : runF Pf Gc (k + 1) "divisor_of" [.d (.int a), .d (.int b)] S = .ok (.d (.int (Nat.gcd a.natAbs b.natAbs : Nat))) S := by
  rw [run_fn p_divisor_of rfl]
  simp -implicitDefEqProofs [fn_divisor_of, biD, bGcd]
--@ is_ratio
theorem r_is_ratio (k : Nat) (S : Store) (d : D) : runF Pf Gc (k + 3) "is_ratio" [.d d] S = .ok (.d (.bool (ratioB d))) S := by
  rw [run_fn p_is_ratio rfl]
  simp -implicitDefEqProofs [fn_is_ratio, r_are_wholes]
  by_cases h : wholesB 2 d = true
  · obtain ⟨a, b, rfl⟩ := wholes_2 h
    simp -implicitDefEqProofs [h, ratioB, r_divisor_of]
    by_cases hb : 0 < b
    · simp -implicitDefEqProofs [hb, r_divisor_of]
      rw [Bool.eq_iff_iff]
      simp -implicitDefEqProofs
      omega
    · simp -implicitDefEqProofs [hb]
  · simp -implicitDefEqProofs [h, ratio_wholes h]
--@ ratio
theorem r_ratio (k : Nat) (S : Store) (a b : Int) (hb : b ≠ 0) (h : Bt 8000 b) : runF Pf Gc (k + 2) "ratio" [.d (.int a), .d (.int b)] S = .ok (.d (fr (Rat.divInt a b))) S := by
  rw [run_fn p_ratio rfl]
  have e := gg_ne (a := a) hb
  have l := gg_bt (a := a) hb h
  have m1 := fun i => fdiv_bt (i := i) e l (by omega)
  rw [fr_div hb]
  by_cases hp : 0 < b
  · have eg : gg a b = ((Nat.gcd a.natAbs b.natAbs : Nat) : Int) := if_pos hp
    simp -implicitDefEqProofs [fn_ratio, hp, r_divisor_of, ← eg, m1, lenFits, sizeLine]
  · have eg : gg a b = -((Nat.gcd a.natAbs b.natAbs : Nat) : Int) := if_neg hp
    simp -implicitDefEqProofs [fn_ratio, hp, r_divisor_of, ← eg, m1, lenFits, sizeLine]
--@ plus
theorem r_plus (k : Nat) (S : Store) (p q : Rat) (hp : Sz p) (hq : Sz q) : runF Pf Gc (k + 3) "plus" [.d (fr p), .d (fr q)] S = .ok (.d (fr (p + q))) S := by
  rw [run_fn p_plus rfl]
  obtain ⟨m1, m2, m3, m4, m5⟩ := sz_plus hp hq
  rw [← add_div]
  have hr := r_ratio k S (p.num * q.den + q.num * p.den) (p.den * q.den) (mulden_ne p q) m5
  simp only [fr] at hr ⊢
  simp -implicitDefEqProofs [fn_plus, m1, m2, m3, hr]
--@ minus
theorem r_minus (k : Nat) (S : Store) (p q : Rat) (hp : Sz p) (hq : Sz q) : runF Pf Gc (k + 3) "minus" [.d (fr p), .d (fr q)] S = .ok (.d (fr (p - q))) S := by
  rw [run_fn p_minus rfl]
  obtain ⟨m1, m2, m3, m4, m5⟩ := sz_plus hp hq
  rw [← sub_div]
  have hr := r_ratio k S (p.num * q.den - q.num * p.den) (p.den * q.den) (mulden_ne p q) m5
  simp only [fr] at hr ⊢
  simp -implicitDefEqProofs [fn_minus, m1, m2, m3, hr]
--@ times
theorem r_times (k : Nat) (S : Store) (p q : Rat) (hp : Sz p) (hq : Sz q) : runF Pf Gc (k + 3) "times" [.d (fr p), .d (fr q)] S = .ok (.d (fr (p * q))) S := by
  rw [run_fn p_times rfl]
  obtain ⟨m1, m2, m3, m4, m5⟩ := sz_plus hp hq
  rw [← mul_div']
  have hr := r_ratio k S (p.num * q.num) (p.den * q.den) (mulden_ne p q) m5
  simp only [fr] at hr ⊢
  simp -implicitDefEqProofs [fn_times, m4, m3, hr]
--@ over
section
open Lp
theorem r_over (k : Nat) (S : Store) (p q : Rat) (hp : Sz p) (hq : Sz q) (h : q ≠ 0) : runF Pf Gc (k + 3) "over" [.d (fr p), .d (fr q)] S = .ok (.d (fr (p / q))) S := by
  rw [run_fn p_over rfl]
  have m1 := mul_bt (i := p.num) (j := (q.den : Int)) hp.1 hq.2 (by omega)
  have m2 := mul_bt (i := (p.den : Int)) (j := q.num) hp.2 hq.1 (by omega)
  have hn : (p.den * q.num : Int) ≠ 0 := Int.mul_ne_zero (den_ne p) fun z => h (Rat.num_eq_zero.mp z)
  have e : Rat.divInt (p.num * q.den) (p.den * q.num) = p / q := by
    have hq0 : (q.num : Int) ≠ 0 := fun z => h (Rat.num_eq_zero.mp z)
    have h1 : ((p.den : Int) : Rat) ≠ 0 := by simpa using p.den_nz
    have h2 : ((q.den : Int) : Rat) ≠ 0 := by simpa using q.den_nz
    have h3 : (q.num : Rat) ≠ 0 := by simpa using hq0
    have e1 : (p.num : Rat) / ((p.den : Int) : Rat) = p := by rw [← Rat.divInt_eq_div]; exact Rat.num_divInt_den p
    have e2 : (q.num : Rat) / ((q.den : Int) : Rat) = q := by rw [← Rat.divInt_eq_div]; exact Rat.num_divInt_den q
    rw [Rat.divInt_eq_div, Rat.intCast_mul, Rat.intCast_mul]
    generalize ((p.den : Int) : Rat) = a at *
    generalize ((q.den : Int) : Rat) = b at *
    generalize (p.num : Rat) = c at *
    generalize (q.num : Rat) = d at *
    rw [← e1, ← e2]
    grind
  have hr := r_ratio k S (p.num * q.den) (p.den * q.num) hn ((hp.2.mul hq.1).mono (by omega))
  rw [e] at hr
  simp only [fr] at hr ⊢
  simp -implicitDefEqProofs [fn_over, m1, m2, hr]
end
--@ opposite
theorem r_opposite (k : Nat) (S : Store) (q : Rat) : runF Pf Gc (k + 1) "opposite" [.d (fr q)] S = .ok (.d (fr (-q))) S := by
  rw [run_fn p_opposite rfl]
  simp -implicitDefEqProofs [fn_opposite]
  rfl
--@ is_up_to
theorem r_is_up_to (k : Nat) (S : Store) (p q : Rat) (hp : Sz p) (hq : Sz q) : runF Pf Gc (k + 1) "is_up_to" [.d (fr p), .d (fr q)] S = .ok (.d (.bool (decide (p ≤ q)))) S := by
  rw [run_fn p_is_up_to rfl]
  obtain ⟨m1, m2, m3, m4, m5⟩ := sz_plus hp hq
  rw [← up_to]
  simp -implicitDefEqProofs [fn_is_up_to, fr, m1, m2]
--@ is_below
section
open Lp
theorem r_is_below (k : Nat) (S : Store) (p q : Rat) (hp : Sz p) (hq : Sz q) : runF Pf Gc (k + 1) "is_below" [.d (fr p), .d (fr q)] S = .ok (.d (.bool (decide (p < q)))) S := by
  rw [run_fn p_is_below rfl]
  obtain ⟨m1, m2, m3, m4, m5⟩ := sz_plus hp hq
  have e : decide (p.num * q.den < q.num * p.den) = decide (p < q) := by
    rw [decide_eq_decide]
    exact (Rat.lt_iff p q).symm
  rw [← e]
  simp -implicitDefEqProofs [fn_is_below, fr, m1, m2]
end
--@ dot
theorem r_dotZ (k : Nat) (S : Store) (A B : D) (ps qs : List Rat) (Z : Nat → Rat → Prop) (hA : itemsD A = some (ps.map fr)) (hB : itemsD B = some (qs.map fr)) (z0 : Z 0 0) (hp : ∀ p ∈ ps, Sz p) (hq : ∀ q ∈ qs, Sz q) (hpq : ∀ p ∈ ps, ∀ q ∈ qs, Sz (p * q))
    (hz : ∀ t a, t ≤ ps.length → Z t a → Sz a) (hs : ∀ t a, t < ps.length → Z t a → ∀ p ∈ ps, ∀ q ∈ qs, Z (t + 1) (a + p * q)) :
    runF Pf Gc (k + 4) "dot" [.d A, .d B] S = .ok (.d (fr (dotQ ps qs))) S := by
  have g1 : Gc "ZERO" = some (fr 0) := rfl
  apply Ok.to
  rw [run_fn p_dot rfl]
  simp -implicitDefEqProofs [fn_dot, g1, zipD, hA, hB]
  have loop : ∀ (ps' qs' : List Rat) (a : Rat) (t : Nat) (y3 y4 : Option R), Z t a → (∀ p ∈ ps', p ∈ ps) → (∀ q ∈ qs', q ∈ qs) → t + ps'.length = ps.length →
      ∃ z3 z4, forD (forB (runF Pf Gc (k + 3)) Gc (.t [.v 3, .v 4]) [.ite (.and [.cmp .ne (.ix (.v 3) (.i 0)) (.i 0), .cmp .ne (.ix (.v 4) (.i 0)) (.i 0)]) [.asg (.v 2) (.call "plus" [.v 2, .call "times" [.v 3, .v 4]])] []]) (zip2 (ps'.map fr) (qs'.map fr)) [some (.d A), some (.d B), some (.d (fr a)), y3, y4] S = .ok (.nx, [some (.d A), some (.d B), some (.d (fr (dotF a ps' qs'))), z3, z4]) S := by
    intro ps'
    induction ps' with
    | nil => intro qs a t y3 y4 _ _ _ _; cases qs <;> exact ⟨y3, y4, rfl⟩
    | cons p ps' ih =>
      intro qs' a t y3 y4 ha hps hqs ht
      cases qs' with
      | nil => exact ⟨y3, y4, rfl⟩
      | cons q qs' =>
        rw [List.length_cons] at ht
        have p1 := hps p List.mem_cons_self
        have q1 := hqs q List.mem_cons_self
        have hn := hs t a (by omega) ha p p1 q q1
        obtain ⟨z3, z4, e⟩ := ih qs' (a + p * q) (t + 1) (some (.d (fr p))) (some (.d (fr q))) hn (fun x hx => hps x (List.mem_cons_of_mem _ hx)) (fun x hx => hqs x (List.mem_cons_of_mem _ hx)) (by omega)
        refine ⟨z3, z4, ?_⟩
        rw [List.map_cons, List.map_cons, zip2, forD_cons]
        have step : forB (runF Pf Gc (k + 3)) Gc (.t [.v 3, .v 4]) [.ite (.and [.cmp .ne (.ix (.v 3) (.i 0)) (.i 0), .cmp .ne (.ix (.v 4) (.i 0)) (.i 0)]) [.asg (.v 2) (.call "plus" [.v 2, .call "times" [.v 3, .v 4]])] []] (.tuple [fr p, fr q]) [some (.d A), some (.d B), some (.d (fr a)), y3, y4] S = .ok (.nx, [some (.d A), some (.d B), some (.d (fr (a + p * q))), some (.d (fr p)), some (.d (fr q))]) S := by
          have rt := r_times k S p q (hp p p1) (hq q q1)
          have rp := r_plus k S a (p * q) (hz t a (by omega) ha) (hpq p p1 q q1)
          have ix : ∀ r : Rat, ixD (fr r) (.int 0) = some (.int r.num) := fun _ => rfl
          by_cases e1 : p = 0
          · subst e1
            simp -implicitDefEqProofs [forB_app, ix, Rat.add_zero]
          · by_cases e2 : q = 0
            · subst e2
              have n1 : p.num ≠ 0 := fun z => e1 (Rat.num_eq_zero.mp z)
              have b1 : (p.num == 0) = false := by rw [beq_eq_false_iff_ne]; exact n1
              simp -implicitDefEqProofs [forB_app, ix, b1, Rat.add_zero]
            · have n1 : p.num ≠ 0 := fun z => e1 (Rat.num_eq_zero.mp z)
              have n2 : q.num ≠ 0 := fun z => e2 (Rat.num_eq_zero.mp z)
              have b1 : (p.num == 0) = false := by rw [beq_eq_false_iff_ne]; exact n1
              have b2 : (q.num == 0) = false := by rw [beq_eq_false_iff_ne]; exact n2
              simp -implicitDefEqProofs [forB_app, ix, b1, b2, rt, rp]
        rw [step]
        simp -implicitDefEqProofs [e, dotF]
  obtain ⟨z3, z4, e⟩ := loop ps qs 0 0 none none z0 (fun _ h => h) (fun _ h => h) (by omega)
  rw [e]
  simp -implicitDefEqProofs [dotQ]
theorem r_dot (k : Nat) (S : Store) (A B : D) (ps qs : List Rat) (j j' m m' : Nat) (hA : itemsD A = some (ps.map fr)) (hB : itemsD B = some (qs.map fr)) (hp : ∀ p ∈ ps, Qb j m p) (hq : ∀ q ∈ qs, Qb j' m' q) (hl : ps.length ≤ 30) (hb : m + m' + 31 + 13 * (j + j') < 1900) :
    runF Pf Gc (k + 4) "dot" [.d A, .d B] S = .ok (.d (fr (dotQ ps qs))) S :=
  r_dotZ k S A B ps qs (fun t a => Qb (j + j') (m + m' + t) a) hA hB Qb.zero (fun p h => (hp p h).sz (by omega)) (fun q h => (hq q h).sz (by omega)) (fun p h q g => ((hp p h).mul (hq q g)).sz (by omega))
    (fun t a ht h => h.sz (by omega)) fun t a ht h p hp' q hq' => (h.add ((hp p hp').mul (hq q hq'))).mono (by omega) (by omega)
theorem r_dotB (k : Nat) (S : Store) (A B : D) (ps qs : List Rat) (a b : Nat) (hA : itemsD A = some (ps.map fr)) (hB : itemsD B = some (qs.map fr)) (hp : ∀ p ∈ ps, Bq a p) (hq : ∀ q ∈ qs, Bq b q) (hb : (ps.length + 1) * (a + b + 1) < 1900) :
    runF Pf Gc (k + 4) "dot" [.d A, .d B] S = .ok (.d (fr (dotQ ps qs))) S :=
  have l : a + b < 1900 := by have := Nat.mul_le_mul_right (a + b + 1) (show 1 ≤ ps.length + 1 by omega); omega
  have hb' : ps.length * (a + b + 1) < 1900 := by have := Nat.mul_le_mul_right (a + b + 1) (show ps.length ≤ ps.length + 1 by omega); omega
  r_dotZ k S A B ps qs (Bz (a + b)) hA hB Bz.zero (fun p h => (hp p h).sz (by omega)) (fun q h => (hq q h).sz (by omega)) (fun p h q g => ((hp p h).mul (hq q g)).sz (by omega))
    (fun t c ht h => h.sz ht hb') fun t c ht h p hp' q hq' => h.step ((hp p hp').mul (hq q hq'))
section
open Lp
theorem r_dotF (k : Nat) (S : Store) (X Y : D) (n a b d : Nat) (x g : Nat → Rat) (hX : itemsD X = some ((List.range n).map fun c => fr (x c))) (hY : itemsD Y = some ((List.range n).map fun c => fr (g c))) (hx : Few a n x) (d0 : d ≠ 0) (db : d ≤ 2 ^ b) (hg : ∀ c, c < n → Fr d (2 ^ b) (g c)) (hn : n ≤ 1000) (hb : a + b + 20 ≤ 1900) :
    runF Pf Gc (k + 4) "dot" [.d X, .d Y] S = .ok (.d (fr (sm n fun c => x c * g c))) S := by
  obtain ⟨Q, q0, qb, hf⟩ := hx
  rw [← dot_sm]
  have qd : Q * d ≤ 2 ^ (a + b) := by rw [Nat.pow_add]; exact Nat.mul_le_mul qb db
  have qd0 := Nat.mul_ne_zero q0 d0
  refine r_dotZ k S X Y _ _ (fun t q => Fr (Q * d) (t * 2 ^ (a + b)) q) (by rw [hX, List.map_map]; rfl) (by rw [hY, List.map_map]; rfl) Fr.zero (fun p hp => ?_) (fun q hq => ?_) (fun p hp q hq => ?_) (fun t q ht h => ?_) (fun t q ht h p hp r hr => ?_)
  · obtain ⟨c, hc, rfl⟩ := List.mem_map.mp hp
    exact fr_sz (hf c (List.mem_range.mp hc)) q0 qb (Nat.le_refl _) (by omega)
  · obtain ⟨c, hc, rfl⟩ := List.mem_map.mp hq
    exact fr_sz (hg c (List.mem_range.mp hc)) d0 db (Nat.le_refl _) (by omega)
  · obtain ⟨c, hc, rfl⟩ := List.mem_map.mp hp
    obtain ⟨c', hc', rfl⟩ := List.mem_map.mp hq
    exact fr_sz (fr_part (hf c (List.mem_range.mp hc)) (hg c' (List.mem_range.mp hc'))) qd0 qd (Nat.le_refl _) (by omega)
  · refine fr_sz (a := a + b + 10) h qd0 (Nat.le_trans qd (Nat.pow_le_pow_right (by decide) (by omega))) ?_ (by omega)
    rw [List.length_map, List.length_range] at ht
    have := Nat.mul_le_mul_right (2 ^ (a + b)) (show t ≤ 2 ^ 10 by omega)
    rw [← Nat.pow_add] at this
    exact Nat.le_trans this (Nat.pow_le_pow_right (by decide) (by omega))
  · obtain ⟨c, hc, rfl⟩ := List.mem_map.mp hp
    obtain ⟨c', hc', rfl⟩ := List.mem_map.mp hr
    have := h.add (fr_part (hf c (List.mem_range.mp hc)) (hg c' (List.mem_range.mp hc')))
    rw [Nat.succ_mul]
    exact this
end
--@ noughts
theorem r_noughts (k : Nat) (S : Store) (n : Int) (h0 : 0 ≤ n) (h1 : n ≤ 1000) : runF Pf Gc (k + 1) "noughts" [.d (.int n)] S = .ok (.d (rowD (nulR n.toNat))) S := by
  have g1 : Gc "ZERO" = some (fr 0) := rfl
  rw [run_fn p_noughts rfl]
  have hm : opB .mul (.tuple [fr 0]) (.int n) = some (.tuple (List.replicate n.toNat [fr 0]).flatten) := opB_mulT (by simp; omega)
  simp -implicitDefEqProofs [fn_noughts, g1, hm, lenFits, sizeLine, rowD, nulR]
--@ unit

theorem r_unit (k : Nat) (S : Store) (n a : Nat) (hn : n ≤ 30) (ha : a < n) : runF Pf Gc (k + 2) "unit" [.d (.int n), .d (.int a)] S = .ok (.d (rowD (unitR n a 1))) S := by
  have g1 : Gc "ONE" = some (fr 1) := rfl
  rw [run_fn p_unit rfl]
  have h1 := r_noughts k S (a : Int) (by omega) (by omega)
  have h2 := r_noughts k S ((n : Int) - 1 - a) (by omega) (by omega)
  have e2 : ((n : Int) - 1 - a).toNat = n - 1 - a := by omega
  rw [Int.toNat_natCast] at h1
  rw [e2] at h2
  have a1 := addRow (a := nulR a) (b := [1]) (by simp -implicitDefEqProofs [nulR]; omega)
  have a2 := addRow (a := nulR a ++ [1]) (b := nulR (n - 1 - a)) (by simp -implicitDefEqProofs [nulR]; omega)
  have e1 : rowD [1] = .tuple [fr 1] := rfl
  rw [e1] at a1
  simp -implicitDefEqProofs [fn_unit, g1, h1, h2, a1, a2, -List.append_assoc]
  rfl
--@ scaled
theorem r_scaled (k : Nat) (S : Store) (a : List Rat) (q : Rat) (ha : ∀ x ∈ a, Sz x) (hq : Sz q) (hl : a.length ≤ 1000) : runF Pf Gc (k + 4) "scaled" [.d (rowD a), .d (fr q)] S = .ok (.d (rowD (scaleR a q))) S := by
  rw [run_fn p_scaled rfl]
  obtain ⟨g, hg⟩ : ∃ g : D → D, ∀ p : Rat, g (fr p) = fr (p * q) := ⟨fun x => match x with | .tuple [.int p, .int p'] => fr (mkRat p p'.toNat * q) | _ => .none, fun p => by
    show fr (mkRat p.num ((p.den : Int).toNat) * q) = _
    rw [Int.toNat_natCast, Rat.mkRat_self]⟩
  simp -implicitDefEqProofs [fn_scaled, rowD]
  rw [lc_map (xs := a.map fr) (g := g) (by simp -implicitDefEqProofs) (fun x hx acc => by
    obtain ⟨p, hp, rfl⟩ := List.mem_map.mp hx
    simp -implicitDefEqProofs [lcStep, wipeE, r_times _ _ p q (ha p hp) hq, hg]) (by simp; omega)]
  simp -implicitDefEqProofs [scaleR, hg]
--@ turned
theorem r_turned (k : Nat) (S : Store) (r : List Rat) (hl : r.length ≤ 1000) : runF Pf Gc (k + 2) "turned" [.d (rowD r)] S = .ok (.d (rowD (r.map (- ·)))) S := by
  rw [run_fn p_turned rfl]
  simp -implicitDefEqProofs [fn_turned]
  rw [lc_mapT fr (fun q => fr (-q)) r (by simp -implicitDefEqProofs) (fun q hq acc => by simp -implicitDefEqProofs [lcStep, wipeE, r_opposite]) (by omega)]
  simp -implicitDefEqProofs [rowD, Function.comp_def]
--@ is_row_by
theorem r_is_row_by (k : Nat) (S : Store) (d : D) (many : Int) (hm : many ≤ 16777216) : runF Pf Gc (k + 4) "is_row_by" [.d d, .d (.int many)] S = .ok (.d (.bool (rowB many d))) S := by
  rw [run_fn p_is_row_by rfl]
  cases d <;> simp -implicitDefEqProofs [fn_is_row_by, tyOf, rowB]
  rename_i ds
  by_cases h : (ds.length : Int) = many
  · simp -implicitDefEqProofs [h]
    rw [lc_map (xs := ds) (g := fun x => .bool (ratioB x)) (by simp -implicitDefEqProofs) (fun x hx acc => by simp -implicitDefEqProofs [lcStep, wipeE, r_is_ratio]) (by omega)]
    simp -implicitDefEqProofs
  · have h' : ((ds.length : Int) == many) = false := by rw [beq_eq_false_iff_ne]; exact h
    simp -implicitDefEqProofs [h, h']
--@ check_row
theorem r_check_row (k : Nat) (S : Store) (n : Int) (pt : List Rat) (hn : (pt.length : Int) = n) : runF Pf Gc (k + 4) "check_row" [.d (.int n), .d (rowD pt)] S = .ok (.d .none) S := by
  subst hn
  apply Ok.to
  rw [run_fn p_check_row rfl]
  simp -implicitDefEqProofs [fn_check_row, enumD]
  rw [enum_map]
  refine for_inv (fun _ e S' => S' = S ∧ ∃ y2 y3, e = [some (.d (.int pt.length)), some (.d (rowD pt)), y2, y3]) ⟨rfl, _, _, rfl⟩ (fun j x e S' hx hI => ?_) (fun e S' hI => ?_)
  · obtain ⟨rfl, y2, y3, rfl⟩ := hI
    obtain ⟨p, hp, rfl⟩ := List.mem_map.mp (List.mem_of_getElem? hx)
    simp -implicitDefEqProofs [forB_app, r_is_ratio, fr_ratio]
  · obtain ⟨rfl, y2, y3, rfl⟩ := hI
    simp -implicitDefEqProofs
--@ first_board
section
open Lp
def sgR (rt : Nat → Rat) (i : Nat) : Rat := if rt i < 0 then -1 else 1
/-- the first board: columns as rows in C, the sums in rt -/
def fbR (m n : Nat) (C : Nat → Nat → Rat) (rt : Nat → Rat) (i c : Nat) : Rat := if c < n then C c i * sgR rt i else if c < n + m then (if c - n = i then 1 else 0) else rt i * sgR rt i
theorem sg_sz (rt : Nat → Rat) (i : Nat) : Sz (sgR rt i) := by
  unfold sgR
  split
  · exact Bq.sz (a := 2) (Bq.int (z := -1) (by unfold Bt; decide) (by decide)) (by decide)
  · exact Bq.sz (a := 2) (Bq.int (z := 1) (by unfold Bt; decide) (by decide)) (by decide)
theorem r_first_board (k : Nat) (S : Store) (m n : Nat) (C : Nat → Nat → Rat) (rt : Nat → Rat) (hC : ∀ c, c < n → ∀ i, i < m → Sz (C c i)) (hr : ∀ i, i < m → Sz (rt i)) (hm : m ≤ 30) (hn : n ≤ 1000) :
    runF Pf Gc (k + 4) "first_board" [.d (brD n m C), .d (rwD m rt)] S = .ok (.d (.tuple [brD m (n + m + 1) (fbR m n C rt), lsD m (sgR rt)])) S := by
  have g1 : Gc "ONE" = some (fr 1) := rfl
  have g2 : Gc "LESS" = some (fr (-1)) := rfl
  apply Ok.to
  rw [run_fn p_first_board rfl]
  simp -implicitDefEqProofs [fn_first_board, biD, len_rw]
  rw [lc_mapT (fun c => fr (rt c)) (fun c => fr (sgR rt c)) (List.range m) (by simp -implicitDefEqProofs [it_rw]) (fun c hc acc => by
    by_cases h : rt c < 0
    · have h' := num_neg' h
      simp -implicitDefEqProofs [lcStep, wipeE, h', g2, sgR, h]
    · have h' : ¬ (rt c).num < 0 := fun z => h (neg_num' z)
      simp -implicitDefEqProofs [lcStep, wipeE, h', g1, sgR, h]) (by simp; omega)]
  have es : PyData.list ((List.range m).map fun c => fr (sgR rt c)) = lsD m (sgR rt) := rfl
  rw [es]
  simp -implicitDefEqProofs [enum_ls, lenFits, sizeLine]
  refine for_inv (fun j e S' => S' = S ++ [.lst ((List.range j).map fun k => rwD (n + m + 1) (fbR m n C rt k))] ∧ ∃ y5 y6 y7, e = [some (.d (brD n m C)), some (.d (rwD m rt)), some (.d (.int m)), some (.d (lsD m (sgR rt))), some (.ref S.length), y5, y6, y7, none, none])
    ⟨rfl, none, none, none, rfl⟩ (fun j x e S' hx hI => ?_) (fun e S' hI => ?_)
  · obtain ⟨hj, rfl⟩ := range_get hx
    obtain ⟨rfl, y5, y6, y7, rfl⟩ := hI
    have nx : (List.range (j + 1)).map (fun k => rwD (n + m + 1) (fbR m n C rt k)) = (List.range j).map (fun k => rwD (n + m + 1) (fbR m n C rt k)) ++ [rwD (n + m + 1) (fbR m n C rt j)] := by rw [List.range_succ, List.map_append]; rfl
    have pc := push_new (S := S) (ds := (List.range j).map fun k => rwD (n + m + 1) (fbR m n C rt k)) (y := rwD (n + m + 1) (fbR m n C rt j)) (by simp; unfold sizeLine; omega)
    simp -implicitDefEqProofs [forB_app]
    rw [lc_mapT (fun c => rwD m (C c)) (fun c => fr (C c j * sgR rt j)) (List.range n) (by simp -implicitDefEqProofs [it_br]) (fun c hc acc => by
      have i1 := ix_rw (w := m) (C c) hj
      have rt' := fun S => r_times k S (C c j) (sgR rt j) (hC c (List.mem_range.mp hc) j hj) (sg_sz rt j)
      simp -implicitDefEqProofs [lcStep, wipeE, i1, rt']) (by simp; omega)]
    have i2 := ix_rw (w := m) rt hj
    have ru := fun S => r_unit (k + 1) S m j (by omega) hj
    have rt' := fun S => r_times k S (rt j) (sgR rt j) (hr j hj) (sg_sz rt j)
    have tl : bTuple [.list ((List.range n).map fun c => fr (C c j * sgR rt j))] = some (.tuple ((List.range n).map fun c => fr (C c j * sgR rt j))) := rfl
    have eu : rowD (unitR m j 1) = .tuple ((List.range m).map fun c => fr (if c = j then 1 else 0)) := by
      rw [unit_rng hj]
      unfold rowD
      rw [List.map_map]
      rfl
    rw [eu] at ru
    have a1 := opB_addT (xs := (List.range n).map fun c => fr (C c j * sgR rt j)) (ys := (List.range m).map fun c => fr (if c = j then 1 else 0)) (by simp; unfold sizeLine; omega)
    have a2 := opB_addT (xs := ((List.range n).map fun c => fr (C c j * sgR rt j)) ++ (List.range m).map fun c => fr (if c = j then 1 else 0)) (ys := [fr (rt j * sgR rt j)]) (by simp; unfold sizeLine; omega)
    have e2 : PyData.tuple (((List.range n).map fun c => fr (C c j * sgR rt j)) ++ ((List.range m).map fun c => fr (if c = j then 1 else 0)) ++ [fr (rt j * sgR rt j)]) = rwD (n + m + 1) (fbR m n C rt j) := by
      rw [map_join]
      unfold rwD fbR
      congr 1
      refine List.map_congr_left fun c hc => ?_
      split
      · rfl
      · split <;> rfl
    rw [e2] at a2
    simp -implicitDefEqProofs [biD, tl, i2, ru, rt', a1, a2, pc, nx, lenFits, sizeLine, -List.append_assoc]
  · obtain ⟨rfl, y5, y6, y7, rfl⟩ := hI
    simp -implicitDefEqProofs [List.getElem?_cons_zero, List.getElem?_cons_succ, -getElem?_pos, lenFits, sizeLine]
    rfl
end
--@ gaps
section
open Lp
theorem r_gaps (k : Nat) (S : Store) (m n : Nat) (w : Nat → Rat) (X : Nat → Nat → Rat) (β : Nat → Nat) (hb : ∀ j, j < m → β j < n + m) (hX : ∀ j, j < m → ∀ c, c < n + m → Sz (X j c)) (hw : ∀ c, c < n + m → Sz (w c))
    (hp : ∀ j, j < m → ∀ c, c < n + m → Sz (w (β j) * X j c)) (hs : ∀ j, j ≤ m → ∀ c, c < n + m → Sz (w c - sm j fun i => w (β i) * X i c)) (hl : n + m ≤ 1000) :
    runF Pf Gc (k + 4) "gaps" [.d (brD m (n + m + 1) X), .d (bsD m β), .d (rwD (n + m) w)] S = .ok (.d (lsD (n + m) (gap m w X β))) S := by
  apply Ok.to
  rw [run_fn p_gaps rfl]
  simp -implicitDefEqProofs [fn_gaps, zip_bb, biD, list_rw]
  refine for_inv (fun j e S' => S' = S ∧ ∃ y4 y5, e = [some (.d (brD m (n + m + 1) X)), some (.d (bsD m β)), some (.d (rwD (n + m) w)), some (.d (lsD (n + m) fun c => w c - sm j fun i => w (β i) * X i c)), y4, y5, none, none])
    ⟨rfl, none, none, by simp -implicitDefEqProofs; exact (lsD_congr fun c _ => by simp only [sm]; grind)⟩ (fun j x e S' hx hI => ?_) (fun e S' hI => ?_)
  · obtain ⟨hj, rfl⟩ := range_get hx
    obtain ⟨rfl, y4, y5, rfl⟩ := hI
    have hbj := hb j hj
    have i1 := ix_rw w hbj
    by_cases e0 : w (β j) = 0
    · simp -implicitDefEqProofs [forB_app, i1, e0]
      refine lsD_congr fun c _ => ?_
      simp only [sm]
      grind
    · have b1 := num_ne e0
      simp -implicitDefEqProofs [forB_app, i1, b1]
      rw [lc_mapT (fun c => .tuple [fr (w c - sm j fun i => w (β i) * X i c), fr (X j c)]) (fun c => fr (w c - sm (j + 1) fun i => w (β i) * X i c)) (List.range (n + m)) (by simp -implicitDefEqProofs [zip_lr]) (fun c hc acc => by
        have hc' := List.mem_range.mp hc
        have rt := r_times k (S' ++ [.lst acc]) (w (β j)) (X j c) (hw _ hbj) (hX j hj c hc')
        have rm := r_minus k (S' ++ [.lst acc]) (w c - sm j fun i => w (β i) * X i c) (w (β j) * X j c) (hs j (by omega) c hc') (hp j hj c hc')
        have e1 : (w c - sm j fun i => w (β i) * X i c) - w (β j) * X j c = w c - sm (j + 1) fun i => w (β i) * X i c := by simp only [sm]; grind
        rw [e1] at rm
        simp -implicitDefEqProofs [lcStep, wipeE, i1, rt, rm]) (by simp; omega)]
      simp -implicitDefEqProofs
      rfl
  · obtain ⟨rfl, y4, y5, rfl⟩ := hI
    simp -implicitDefEqProofs
    rfl
end
--@ leaving
section
open Lp
def lvD : Option Nat → D
  | none => .list []
  | some r => .list [.int (r : Nat)]
def fdD (X : Nat → Nat → Rat) (N s : Nat) : Option Nat → D
  | none => .list []
  | some r => .list [fr (X r N / X r s), .int (r : Nat)]
/-- the row at which a column comes in, by the first so many rows -/
def Lv (X : Nat → Nat → Rat) (β : Nat → Nat) (N s j : Nat) : Option Nat → Prop
  | none => ∀ k, k < j → ¬ 0 < X k s
  | some r => r < j ∧ 0 < X r s ∧ ∀ k, k < j → 0 < X k s → X r N / X r s ≤ X k N / X k s ∧ (X r N / X r s = X k N / X k s → β r ≤ β k)
def LvI (a b c : D) (S0 : Store) (X : Nat → Nat → Rat) (β : Nat → Nat) (N s j : Nat) (e : Ev) (S : Store) : Prop := S = S0 ∧ ∃ o y4 y5 y6, e = [some (.d a), some (.d b), some (.d c), some (.d (fdD X N s o)), y4, y5, y6] ∧ Lv X β N s j o
theorem r_leaving (k : Nat) (S : Store) (m n s : Nat) (X : Nat → Nat → Rat) (β : Nat → Nat) (hs : s < n + m) (hX : ∀ j, j < m → ∀ c, c < n + m + 1 → Sz (X j c)) (hq : ∀ j, j < m → 0 < X j s → Sz (X j (n + m) / X j s)) :
    ∃ o, Lv X β (n + m) s m o ∧ runF Pf Gc (k + 4) "leaving" [.d (brD m (n + m + 1) X), .d (bsD m β), .d (.int s)] S = .ok (.d (lvD o)) S := by
  have key : Ok (runF Pf Gc (k + 4) "leaving" [.d (brD m (n + m + 1) X), .d (bsD m β), .d (.int s)] S) fun v S' => ∃ o, Lv X β (n + m) s m o ∧ v = .d (lvD o) ∧ S' = S := by
    rw [run_fn p_leaving rfl]
    simp -implicitDefEqProofs [fn_leaving, enum_br, lenFits, sizeLine]
    refine for_inv (LvI (brD m (n + m + 1) X) (bsD m β) (.int s) S X β (n + m) s)
      ⟨rfl, none, none, none, none, rfl, fun k hk => by omega⟩ (fun j x e S' hx hI => ?_) (fun e S' hI => ?_)
    · obtain ⟨hj, rfl⟩ := range_get hx
      obtain ⟨rfl, o, y4, y5, y6, rfl, hL⟩ := hI
      have i1 := ix_rw (w := n + m + 1) (X j) (show s < n + m + 1 by omega)
      have i2 := ix_last (w := n + m) (X j)
      by_cases hp : 0 < X j s
      · have hn : 0 < (X j s).num := num_pos' hp
        have ro := r_over k S' (X j (n + m)) (X j s) (hX j hj _ (by omega)) (hX j hj _ (by omega)) (by grind)
        have hz := hq j hj hp
        cases o with
        | none =>
          have en : eqD (.list []) (.list []) = some true := rfl
          simp -implicitDefEqProofs [forB_app, i1, i2, hn, ro, fdD, en, cmpD, lenFits, sizeLine]
          refine ⟨rfl, some j, _, _, _, rfl, by omega, hp, fun k hk hkp => ?_⟩
          by_cases e : k = j
          · subst e; exact ⟨Rat.le_refl, fun _ => Nat.le_refl _⟩
          · exact absurd hkp (hL k (by omega))
        | some r =>
          obtain ⟨hr, hrp, hmin⟩ := hL
          have hzr := hq r (by omega) hrp
          have en : eqD (.list [fr (X r (n + m) / X r s), .int (r : Nat)]) (.list []) = some false := rfl
          have rb := r_is_below (k + 2) S' (X j (n + m) / X j s) (X r (n + m) / X r s) hz hzr
          have x0 : ixD (.list [fr (X r (n + m) / X r s), .int (r : Nat)]) (.int 0) = some (fr (X r (n + m) / X r s)) := rfl
          have x1 : ixD (.list [fr (X r (n + m) / X r s), .int (r : Nat)]) (.int 1) = some (.int (r : Nat)) := rfl
          have b1 := ix_bs β hj
          have b2 := ix_bs β (show r < m by omega)
          by_cases h1 : X j (n + m) / X j s < X r (n + m) / X r s
          · simp -implicitDefEqProofs [forB_app, i1, i2, hn, ro, fdD, en, cmpD, lenFits, sizeLine, rb, x0, h1]
            refine ⟨rfl, some j, _, _, _, rfl, by omega, hp, fun k hk hkp => ?_⟩
            by_cases e : k = j
            · subst e; exact ⟨Rat.le_refl, fun _ => Nat.le_refl _⟩
            · have := (hmin k (by omega) hkp).1
              exact ⟨by grind, fun z => by grind⟩
          · by_cases h2 : X j (n + m) / X j s = X r (n + m) / X r s ∧ β j < β r
            · have h3 : (β j : Int) < β r := by omega
              have he : eqD (fr (X j (n + m) / X j s)) (fr (X r (n + m) / X r s)) = some true := by rw [eqD_fr, h2.1]; simp
              simp -implicitDefEqProofs [forB_app, i1, i2, hn, ro, fdD, en, cmpD, lenFits, sizeLine, rb, x0, x1, h1, he, b1, b2, h3]
              refine ⟨rfl, some j, _, _, _, rfl, by omega, hp, fun k hk hkp => ?_⟩
              by_cases e : k = j
              · subst e; exact ⟨Rat.le_refl, fun _ => Nat.le_refl _⟩
              · have := hmin k (by omega) hkp
                rw [h2.1]
                exact ⟨this.1, fun z => by have := this.2 z; omega⟩
            · have fin : Lv X β (n + m) s (j + 1) (some r) := ⟨by omega, hrp, fun k hk hkp => by
                by_cases e : k = j
                · subst e
                  refine ⟨by grind, fun z => ?_⟩
                  have : ¬ β k < β r := fun q => h2 ⟨z.symm, q⟩
                  omega
                · exact hmin k (by omega) hkp⟩
              by_cases h4 : X j (n + m) / X j s = X r (n + m) / X r s
              · have h3 : ¬ (β j : Int) < β r := fun q => h2 ⟨h4, by omega⟩
                have he : eqD (fr (X j (n + m) / X j s)) (fr (X r (n + m) / X r s)) = some true := by rw [eqD_fr, h4]; simp
                simp -implicitDefEqProofs [forB_app, i1, i2, hn, ro, fdD, en, cmpD, lenFits, sizeLine, rb, x0, x1, h1, he, b1, b2, h3]
                exact ⟨rfl, some r, _, _, _, rfl, fin⟩
              · simp -implicitDefEqProofs [forB_app, i1, i2, hn, ro, fdD, en, cmpD, lenFits, sizeLine, rb, x0, x1, h1, eqD_fr, h4]
                exact ⟨rfl, some r, _, _, _, rfl, fin⟩
      · have hn : ¬ 0 < (X j s).num := fun z => hp (pos_num' z)
        simp -implicitDefEqProofs [forB_app, i1, hn]
        refine ⟨rfl, o, _, _, _, rfl, ?_⟩
        cases o with
        | none =>
          intro k hk
          by_cases e : k = j
          · subst e; exact hp
          · exact hL k (by omega)
        | some r =>
          refine ⟨by have := hL.1; omega, hL.2.1, fun k hk hkp => ?_⟩
          by_cases e : k = j
          · subst e; exact absurd hkp hp
          · exact hL.2.2 k (by omega) hkp
    · obtain ⟨rfl, o, y4, y5, y6, rfl, hL⟩ := hI
      rw [List.length_map, List.length_range] at hL
      refine ?_
      cases o with
      | none =>
        have sl : slD (.list []) (some 1) none = some (.list []) := rfl
        simp -implicitDefEqProofs [fdD, sl]
        exact ⟨none, hL, rfl⟩
      | some r =>
        have sl : ∀ a b : D, slD (.list [a, b]) (some 1) none = some (.list [b]) := fun _ _ => rfl
        simp -implicitDefEqProofs [fdD, sl]
        exact ⟨some r, hL, rfl⟩
  obtain ⟨v, S', e, o, hL, rfl, rfl⟩ := key
  exact ⟨o, hL, e⟩
end
--@ turned_about
section
open Lp
theorem r_turned_about (k : Nat) (S : Store) (m w r s : Nat) (X : Nat → Nat → Rat) (hr : r < m) (hs : s < w) (hw : w ≤ 1000) (hm : m ≤ 1000) (h0 : X r s ≠ 0) (hX : ∀ j, j < m → ∀ c, c < w → Sz (X j c)) (h1 : Sz (1 / X r s)) (hl : ∀ c, c < w → Sz (X r c / X r s))
    (hp : ∀ j, j < m → ∀ c, c < w → Sz (X j s * (X r c / X r s))) :
    runF Pf Gc (k + 5) "turned_about" [.d (brD m w X), .d (.int r), .d (.int s)] S = .ok (.d (brD m w (piv X r s))) S := by
  have g1 : Gc "ONE" = some (fr 1) := rfl
  have i1 := ix_br (w := w) X hr
  have i2 := ix_rw (w := w) (X r) hs
  have one : Sz 1 := Bq.sz (a := 2) (Bq.int (z := 1) (by unfold Bt; decide) (by decide)) (by decide)
  have ro := r_over (k + 1) S 1 (X r s) one (hX r hr s hs) h0
  have rs := r_scaled k S ((List.range w).map (X r)) (1 / X r s) (fun x hx => by
    obtain ⟨c, hc, rfl⟩ := List.mem_map.mp hx
    exact hX r hr c (List.mem_range.mp hc)) h1 (by simpa using hw)
  have e1 : rowD (scaleR ((List.range w).map (X r)) (1 / X r s)) = rwD w fun c => X r c / X r s := by
    unfold scaleR rowD rwD
    congr 1
    rw [List.map_map, List.map_map]
    refine List.map_congr_left fun c _ => ?_
    show fr (X r c * (1 / X r s)) = _
    congr 1
    show X r c * (1 / X r s) = X r c / X r s
    rw [Rat.div_def, Rat.div_def, Rat.one_mul]
  rw [← rw_rowD, e1] at rs
  apply Ok.to
  rw [run_fn p_turned_about rfl]
  simp -implicitDefEqProofs [fn_turned_about, g1, i1, i2, ro, rs, enum_br, lenFits, sizeLine]
  refine for_inv (fun j e S' => S' = S ++ [.lst ((List.range j).map fun k => rwD w (piv X r s k))] ∧ ∃ y5 y6, e = [some (.d (brD m w X)), some (.d (.int r)), some (.d (.int s)), some (.d (rwD w fun c => X r c / X r s)), some (.ref S.length), y5, y6, none, none])
    ⟨rfl, none, none, rfl⟩ (fun j x e S' hx hI => ?_) (fun e S' hI => ?_)
  · obtain ⟨hj, rfl⟩ := range_get hx
    obtain ⟨rfl, y5, y6, rfl⟩ := hI
    have nx : (List.range (j + 1)).map (fun k => rwD w (piv X r s k)) = (List.range j).map (fun k => rwD w (piv X r s k)) ++ [rwD w (piv X r s j)] := by rw [List.range_succ, List.map_append]; rfl
    have pc := push_new (S := S) (ds := (List.range j).map fun k => rwD w (piv X r s k)) (y := rwD w (piv X r s j)) (by simp; unfold sizeLine; omega)
    by_cases e0 : j = r
    · subst e0
      have ep : rwD w (fun c => X j c / X j s) = rwD w (piv X j s j) := rwD_congr fun c _ => by unfold piv; rw [if_pos rfl]
      simp -implicitDefEqProofs [forB_app, ep, pc, nx]
    · have e0' : ((j : Int) == (r : Int)) = false := by rw [beq_eq_false_iff_ne]; omega
      have i3 := ix_rw (w := w) (X j) hs
      by_cases e2 : X j s = 0
      · have ep : rwD w (X j) = rwD w (piv X r s j) := rwD_congr fun c _ => by unfold piv; rw [if_neg e0, e2]; grind
        rw [← ep] at pc nx
        simp -implicitDefEqProofs [forB_app, e0', i3, e2, pc, nx]
      · have b1 := num_ne e2
        simp -implicitDefEqProofs [forB_app, e0', i3, b1]
        rw [lc_mapT (fun c => .tuple [fr (X j c), fr (X r c / X r s)]) (fun c => fr (piv X r s j c)) (List.range w) (by simp -implicitDefEqProofs [zip_rr]) (fun c hc acc => by
          have hc' := List.mem_range.mp hc
          have rt := fun S => r_times (k + 1) S (X j s) (X r c / X r s) (hX j hj s hs) (hl c hc')
          have rm := fun S => r_minus (k + 1) S (X j c) (X j s * (X r c / X r s)) (hX j hj c hc') (hp j hj c hc')
          have e3 : X j c - X j s * (X r c / X r s) = piv X r s j c := by unfold piv; rw [if_neg e0]
          rw [e3] at rm
          simp -implicitDefEqProofs [lcStep, wipeE, i3, rt, rm]) (by simp; omega)]
        have tl : bTuple [.list ((List.range w).map fun c => fr (piv X r s j c))] = some (rwD w (piv X r s j)) := rfl
        simp -implicitDefEqProofs [biD, tl, pc, nx]
  · obtain ⟨rfl, y5, y6, rfl⟩ := hI
    simp -implicitDefEqProofs [List.getElem?_cons_zero, List.getElem?_cons_succ, -getElem?_pos]
    rfl
end
--@ descended
section
open Lp
/-- a board's numbers are small -/
structure Bits (m n : Nat) (R : Nat → Nat → Rat) (w : Nat → Rat) (d b : Nat) : Prop where
  z : Siz m n R d b
  w : ∀ c, c < n + m → Fr d (2 ^ b) (w c)
  n : n + m < 1000
  bits : m * (b + 4) + b + 12 ≤ 950
section
variable {m n d b : Nat} {R X : Nat → Nat → Rat} {w : Nat → Rat} {β : Nat → Nat}
theorem Bits.x (h : Bits m n R w d b) (i : Inv m n R X β) : ∀ j, j < m → ∀ c, c < n + m + 1 → Sz (X j c) := fun j hj c hc => (Qo.bq (h.z.x i hj (by omega))).sz (by have := h.bits; omega)
theorem Bits.ws (h : Bits m n R w d b) : ∀ c, c < n + m → Bq (b + 1) (w c) := fun c hc => Qo.bq (fr_qo (h.w c hc) h.z.d0 h.z.db (Nat.le_refl _))
theorem Bits.wx (h : Bits m n R w d b) (i : Inv m n R X β) : ∀ j, j < m → ∀ c, c < n + m → Sz (w (β j) * X j c) := fun j hj c hc => ((h.ws _ (i.lt j hj)).mul (Qo.bq (h.z.x i hj (by omega)))).sz (by have := h.bits; omega)
theorem Bits.gp (h : Bits m n R w d b) (i : Inv m n R X β) : ∀ j, j ≤ m → ∀ c, c < n + m → Sz (w c - sm j fun i => w (β i) * X i c) := fun j hj c hc => (Qo.bq (h.z.part i h.w hj hc)).sz (by have := h.bits; omega)
end
theorem turn_at {m n d b : Nat} {R X : Nat → Nat → Rat} {β : Nat → Nat} (k : Nat) (S : Store) {r s : Nat} (z : Siz m n R d b) (hn : n + m < 1000) (hb : m * (b + 4) + b + 12 ≤ 950) (hi : Inv m n R X β) (hr : r < m) (hs : s < n + m) (h0 : X r s ≠ 0) :
    runF Pf Gc (k + 5) "turned_about" [.d (brD m (n + m + 1) X), .d (.int r), .d (.int s)] S = .ok (.d (brD m (n + m + 1) (piv X r s))) S :=
  have hx := fun j hj c (hc : c < n + m + 1) => Qo.bq (z.x (X := X) (β := β) hi (k := j) (c := c) hj (by omega))
  have hq := fun c (hc : c < n + m + 1) => Qo.bq (z.quot hi (r := r) (s := s) (c := c) hr (by omega) (by omega) h0)
  r_turned_about k S m (n + m + 1) r s X hr (by omega) (by omega) (by omega) h0 (fun j hj c hc => (hx j hj c hc).sz (by omega)) ((Qo.bq ((z.x hi hr (by omega)).inv h0)).sz (by omega)) (fun c hc => (hq c hc).sz (by omega))
    (fun j hj c hc => ((hx j hj s (by omega)).mul (hq c hc)).sz (by omega))
def DsI (m n : Nat) (R : Nat → Nat → Rat) (w : Nat → Rat) (J : (Nat → Nat → Rat) → (Nat → Nat) → Prop) (S0 : Store) (M : Nat) (e : Ev) (S : Store) : Prop :=
  S = S0 ∧ ∃ T Xs βs rs ss y4 y5 y6, Run m n R w Xs βs rs ss T ∧ J (Xs T) (βs T) ∧ M = (n + m) ^ m + 1 - T ∧ e = [some (.d (brD m (n + m + 1) (Xs T))), some (.d (bsD m (βs T))), some (.d (rwD (n + m) w)), some (.d (.int n)), y4, y5, y6, none]
def DsQ (m n : Nat) (R : Nat → Nat → Rat) (w : Nat → Rat) (J : (Nat → Nat → Rat) → (Nat → Nat) → Prop) (S0 : Store) (v : Sx.R) (S : Store) : Prop :=
  S = S0 ∧ ∃ X β, Inv m n R X β ∧ (∀ k, k < m → 0 ≤ X k (n + m)) ∧ J X β ∧ (∀ c, c < n → 0 ≤ gap m w X β c) ∧ v = .d (.tuple [brD m (n + m + 1) X, bsD m β, lsD (n + m) (gap m w X β)])
theorem r_descended (k : Nat) (S : Store) (m n d b : Nat) (R : Nat → Nat → Rat) (w : Nat → Rat) (hB : Bits m n R w d b) (J : (Nat → Nat → Rat) → (Nat → Nat) → Prop) (hJ : ∀ X β r s, J X β → Step m n w X β r s → J (piv X r s) (upb β r s))
    (hend : ∀ X β s, Inv m n R X β → J X β → s < n → gap m w X β s < 0 → ∃ k, k < m ∧ 0 < X k s) (X0 : Nat → Nat → Rat) (β0 : Nat → Nat) (hi : Inv m n R X0 β0) (hf : ∀ k, k < m → 0 ≤ X0 k (n + m)) (h0 : J X0 β0) :
    Ok (runF Pf Gc (k + 6) "descended" [.d (brD m (n + m + 1) X0), .d (bsD m β0), .d (rwD (n + m) w), .d (.int n)] S) (DsQ m n R w J S) := by
  have hn := hB.n
  rw [run_fn p_descended rfl]
  simp -implicitDefEqProofs [fn_descended]
  refine wh_inv (DsI m n R w J S) (m := (n + m) ^ m + 1 - 0) ⟨rfl, 0, fun _ => X0, fun _ => β0, fun _ => 0, fun _ => 0, none, none, none, Run.start hi hf, h0, rfl, rfl⟩ (fun M e S' hI => ?_)
  obtain ⟨rfl, T, Xs, βs, rs, ss, y4, y5, y6, hR, hJT, rfl, rfl⟩ := hI
  have iT := hR.inv T (Nat.le_refl _)
  have fT := hR.feas T (Nat.le_refl _)
  have rg := r_gaps (k + 1) S' m n w (Xs T) (βs T) iT.lt (fun j hj c hc => hB.x iT j hj c (by omega)) (fun c hc => (hB.ws c hc).sz (by have := hB.bits; omega)) (hB.wx iT) (hB.gp iT) (by omega)
  have rn := rng_1 (j := (n : Int)) ⟨by omega, by omega⟩
  simp -implicitDefEqProofs [rg]
  rw [lc_runT (fun c : Nat => .int (c : Int)) (fun c => if decide (gap m w (Xs T) (βs T) c < 0) then some (.int (c : Int)) else none) (List.range n) (by simp -implicitDefEqProofs [rn]) (fun c hc acc => by
    have hc' := List.mem_range.mp hc
    have i1 := ix_ls (w := n + m) (gap m w (Xs T) (βs T)) (show c < n + m by omega)
    by_cases hg : gap m w (Xs T) (βs T) c < 0
    · have hg' := num_neg' hg
      simp -implicitDefEqProofs [lcStep, wipeE, i1, hg, hg']
    · have hg' : ¬ (gap m w (Xs T) (βs T) c).num < 0 := fun z => hg (neg_num' z)
      simp -implicitDefEqProofs [lcStep, wipeE, i1, hg, hg']) (by simp; omega), fm_filter]
  cases hl : (List.range n).filter fun c => decide (gap m w (Xs T) (βs T) c < 0) with
  | nil =>
    have en : eqD (.list []) (.list []) = some true := rfl
    have hg := filter_nil hl
    simp -implicitDefEqProofs [en, cmpD, lenFits, sizeLine]
    refine ⟨rfl, Xs T, βs T, iT, fT, hJT, fun c hc => ?_, rfl⟩
    have := hg c hc
    rw [decide_eq_false_iff_not] at this
    grind
  | cons s t =>
    obtain ⟨hs, hg, hlt⟩ := filter_head hl
    rw [decide_eq_true_eq] at hg
    obtain ⟨o, hL, rl⟩ := r_leaving (k + 1) S' m n s (Xs T) (βs T) (by omega) (fun j hj c hc => hB.x iT j hj c hc) (fun j hj hp => (Qo.bq (hB.z.quot iT hj (by omega) (by omega) (by grind))).sz (by have := hB.bits; omega))
    have en : eqD (.list ((s :: t).map fun c => (PyData.int (c : Nat) : D))) (.list []) = some false := nats_nil (s :: t)
    rw [List.map_cons] at en
    have x0 : ixD (.list (.int (s : Int) :: t.map fun c => (PyData.int (c : Nat) : D))) (.int 0) = some (.int (s : Int)) := ix_head
    cases o with
    | none =>
      obtain ⟨j, hj, hp⟩ := hend _ _ s iT hJT hs hg
      exact absurd hp (hL j hj)
    | some r =>
      obtain ⟨hr, hrp, hmin⟩ := hL
      have st : Step m n w (Xs T) (βs T) r s := ⟨hr, hs, hg, fun c hc => by have := hlt c hc; rw [decide_eq_false_iff_not] at this; grind, hrp, hmin⟩
      have rt := turn_at k S' hB.z hn hB.bits iT hr (by omega) st.ne
      have en2 : eqD (.list [.int (r : Int)]) (.list []) = some false := rfl
      have x1 : ixD (.list [.int (r : Int)]) (.int 0) = some (.int (r : Int)) := rfl
      have b1 := bs_take (β := βs T) hr
      have b2 := bs_drop (β := βs T) hr
      have a1 := opB_addL (xs := ((List.range m).map fun k => (PyData.int (βs T k : Nat) : D)).take r) (ys := [.int (s : Int)]) (by simp; unfold sizeLine; omega)
      have a2 := opB_addL (xs := ((List.range m).map fun k => (PyData.int (βs T k : Nat) : D)).take r ++ [.int (s : Int)]) (ys := ((List.range m).map fun k => (PyData.int (βs T k : Nat) : D)).drop (r + 1)) (by simp; unfold sizeLine; omega)
      rw [bs_put' hr] at a2
      simp -implicitDefEqProofs [en, x0, rl, lvD, en2, x1, rt, b1, b2, a1, a2, cmpD, lenFits, sizeLine, -List.append_assoc, -List.map_take, -List.map_drop]
      obtain ⟨X', β', r', s', hR', e1, e2⟩ := hR.snoc st
      refine ⟨_, ?_, rfl, T + 1, X', β', r', s', _, _, _, hR', by rw [e1, e2]; exact hJ _ _ _ _ hJT st, rfl, by rw [e1, e2]⟩
      have := hR'.len
      omega
end
--@ prices
section
open Lp
theorem r_prices (k : Nat) (S : Store) (m n : Nat) (g sg w : Nat → Rat) (hw : ∀ i, i < m → Sz (w (n + i))) (hg : ∀ i, i < m → Sz (g (n + i))) (hd : ∀ i, i < m → Sz (w (n + i) - g (n + i))) (hs : ∀ i, i < m → Sz (sg i)) (hm : m ≤ 1000) :
    runF Pf Gc (k + 4) "prices" [.d (lsD (n + m) g), .d (lsD m sg), .d (rwD (n + m) w), .d (.int n)] S = .ok (.d (rwD m fun i => sg i * (w (n + i) - g (n + i)))) S := by
  rw [run_fn p_prices rfl]
  simp -implicitDefEqProofs [fn_prices]
  rw [lc_mapT (fun i : Nat => .tuple [.int (i : Int), fr (sg i)]) (fun i => fr (sg i * (w (n + i) - g (n + i)))) (List.range m) (by simp -implicitDefEqProofs [enum_ls]) (fun i hi acc => by
    have hi' := List.mem_range.mp hi
    have i1 : ixD (rwD (n + m) w) (.int ((n : Int) + (i : Int))) = some (fr (w (n + i))) := by rw [← Int.natCast_add]; exact ix_rw w (by omega)
    have i2 : ixD (lsD (n + m) g) (.int ((n : Int) + (i : Int))) = some (fr (g (n + i))) := by rw [← Int.natCast_add]; exact ix_ls g (by omega)
    have rm := fun S => r_minus k S (w (n + i)) (g (n + i)) (hw i hi') (hg i hi')
    have rt := fun S => r_times k S (sg i) (w (n + i) - g (n + i)) (hs i hi') (hd i hi')
    simp -implicitDefEqProofs [lcStep, wipeE, i1, i2, rm, rt]) (by simp; omega)]
  simp -implicitDefEqProofs [biD]
  rfl
end
--@ driven_out
section
open Lp
def DoI (m n : Nat) (R : Nat → Nat → Rat) (S0 : Store) (j : Nat) (e : Ev) (S : Store) : Prop :=
  S = S0 ∧ ∃ X β y3 y4, Lp.Out m n R X β j ∧ e = [some (.d (brD m (n + m + 1) X)), some (.d (bsD m β)), some (.d (.int n)), y3, y4, none]
def DoQ (m n : Nat) (R : Nat → Nat → Rat) (S0 : Store) (v : Sx.R) (S : Store) : Prop :=
  S = S0 ∧ ∃ X β, Lp.Out m n R X β m ∧ v = .d (.tuple [brD m (n + m + 1) X, bsD m β])
theorem r_driven_out (k : Nat) (S : Store) (m n d b : Nat) (R : Nat → Nat → Rat) (z : Siz m n R d b) (hn : n + m < 1000) (hb : m * (b + 4) + b + 12 ≤ 950) (X0 : Nat → Nat → Rat) (β0 : Nat → Nat) (h0 : Lp.Out m n R X0 β0 0) :
    Ok (runF Pf Gc (k + 6) "driven_out" [.d (brD m (n + m + 1) X0), .d (bsD m β0), .d (.int n)] S) (DoQ m n R S) := by
  rw [run_fn p_driven_out rfl]
  have rm := rng_1 (j := (m : Int)) ⟨by omega, by omega⟩
  have rn := rng_1 (j := (n : Int)) ⟨by omega, by omega⟩
  simp -implicitDefEqProofs [fn_driven_out, biD, len_bs, rm]
  refine for_inv (DoI m n R S) ⟨rfl, X0, β0, none, none, h0, rfl⟩ (fun j x e S' hx hI => ?_) (fun e S' hI => ?_)
  · obtain ⟨hj, rfl⟩ := range_get hx
    obtain ⟨rfl, X, β, y3, y4, hO, rfl⟩ := hI
    have b1 := ix_bs β hj
    by_cases hbj : n ≤ β j
    · have hbj' : (n : Int) ≤ β j := by omega
      simp -implicitDefEqProofs [forB_app, b1, hbj']
      rw [lc_runT (fun c : Nat => .int (c : Int)) (fun c => if decide (X j c ≠ 0) then some (.int (c : Int)) else none) (List.range n) (by simp -implicitDefEqProofs [rn]) (fun c hc acc => by
        have hc' := List.mem_range.mp hc
        have i1 := ix_br (w := n + m + 1) X hj
        have i2 := ix_rw (w := n + m + 1) (X j) (show c < n + m + 1 by omega)
        by_cases hg : X j c = 0
        · simp -implicitDefEqProofs [lcStep, wipeE, i1, i2, hg]
        · have hg' := num_ne hg
          simp -implicitDefEqProofs [lcStep, wipeE, i1, i2, hg, hg']) (by simp; omega), fm_filter]
      cases hl : (List.range n).filter fun c => decide (X j c ≠ 0) with
      | nil =>
        have en : eqD (.list []) (.list []) = some true := rfl
        have hg := filter_nil hl
        simp -implicitDefEqProofs [en, cmpD, lenFits, sizeLine]
        refine ⟨rfl, X, β, _, _, hO.same fun _ c hc => ?_, rfl⟩
        have := hg c hc
        simpa using this
      | cons s t =>
        obtain ⟨hs, hg, _⟩ := filter_head hl
        have hg : X j s ≠ 0 := by simpa using hg
        have en : eqD (.list ((s :: t).map fun c => (PyData.int (c : Nat) : D))) (.list []) = some false := nats_nil (s :: t)
        rw [List.map_cons] at en
        have x0 : ixD (.list (.int (s : Int) :: t.map fun c => (PyData.int (c : Nat) : D))) (.int 0) = some (.int (s : Int)) := ix_head
        have rt := turn_at k S' z hn hb hO.inv hj (show s < n + m by omega) hg
        have b2 := bs_take (β := β) hj
        have b3 := bs_drop (β := β) hj
        have a1 := opB_addL (xs := ((List.range m).map fun k => (PyData.int (β k : Nat) : D)).take j) (ys := [.int (s : Int)]) (by simp; unfold sizeLine; omega)
        have a2 := opB_addL (xs := ((List.range m).map fun k => (PyData.int (β k : Nat) : D)).take j ++ [.int (s : Int)]) (ys := ((List.range m).map fun k => (PyData.int (β k : Nat) : D)).drop (j + 1)) (by simp; unfold sizeLine; omega)
        rw [bs_put' hj] at a2
        simp -implicitDefEqProofs [en, x0, rt, b2, b3, a1, a2, cmpD, lenFits, sizeLine, -List.append_assoc, -List.map_take, -List.map_drop]
        exact ⟨rfl, _, _, _, _, hO.piv hj hbj hs hg, rfl⟩
    · have hbj' : ¬ (n : Int) ≤ β j := by omega
      simp -implicitDefEqProofs [forB_app, b1, hbj']
      exact ⟨rfl, X, β, _, _, hO.same fun h => absurd h hbj, rfl⟩
  · obtain ⟨rfl, X, β, y3, y4, hO, rfl⟩ := hI
    rw [List.length_map, List.length_range] at hO
    simp -implicitDefEqProofs [lenFits, sizeLine]
    exact ⟨rfl, X, β, hO, rfl⟩
end
--@ weights_by
section
open Lp
theorem r_weights_by (k : Nat) (S : Store) (m n : Nat) (X : Nat → Nat → Rat) (β : Nat → Nat) (hi : ∀ i j, i < m → j < m → β i = β j → i = j) (hn : n ≤ 1000) :
    runF Pf Gc (k + 2) "weights_by" [.d (brD m (n + m + 1) X), .d (bsD m β), .d (.int n)] S = .ok (.d (rwD n (wts m n X β))) S := by
  apply Ok.to
  rw [run_fn p_weights_by rfl]
  have rn := r_noughts k S n (by omega) (by omega)
  rw [Int.toNat_natCast, nul_rw] at rn
  simp -implicitDefEqProofs [fn_weights_by, rn, biD, list_rw]
  have e0 : lsD n (fun _ => 0) = .list ((List.range n).map fun c => fr (sm 0 fun k => if β k = c then X k (n + m) else 0)) := rfl
  rw [e0]
  simp -implicitDefEqProofs [zip_bb]
  refine for_inv (fun j e S' => S' = S ++ [.lst ((List.range n).map fun c => fr (sm j fun k => if β k = c then X k (n + m) else 0))] ∧ ∃ y4 y5, e = [some (.d (brD m (n + m + 1) X)), some (.d (bsD m β)), some (.d (.int n)), some (.ref S.length), y4, y5])
    ⟨rfl, none, none, rfl⟩ (fun j x e S' hx hI => ?_) (fun e S' hI => ?_)
  · obtain ⟨hj, rfl⟩ := range_get hx
    obtain ⟨rfl, y4, y5, rfl⟩ := hI
    by_cases hb : β j < n
    · have hb' : (β j : Int) < n := by omega
      have i1 := ix_last (w := n + m) (X j)
      have pd := putD_nat (i := S.length) (j := β j) (v := fr (X j (n + m))) (S := S ++ [.lst ((List.range n).map fun c => fr (sm j fun k => if β k = c then X k (n + m) else 0))]) (xs := (List.range n).map fun c => fr (sm j fun k => if β k = c then X k (n + m) else 0)) (by simpa using hb)
      rw [set_range] at pd
      simp -implicitDefEqProofs [forB_app, hb', i1, pd]
      intro c hc
      simp only [sm]
      by_cases e : c = β j
      · rw [if_pos e, if_pos e.symm, sm_zero fun k hk => ?_, Rat.zero_add]
        rw [if_neg]
        intro z
        have := hi k j (by omega) hj (by omega)
        omega
      · rw [if_neg e, if_neg (Ne.symm e), Rat.add_zero]
    · have hb' : ¬ (β j : Int) < n := by omega
      simp -implicitDefEqProofs [forB_app, hb']
      intro c hc
      simp only [sm]
      rw [if_neg (show ¬ β j = c by omega), Rat.add_zero]
  · obtain ⟨rfl, y4, y5, rfl⟩ := hI
    simp -implicitDefEqProofs [List.getElem?_cons_zero, List.getElem?_cons_succ, -getElem?_pos, biD]
    rfl
end
--@ least_by
section
open Lp
structure LpOk (m n d b : Nat) (C : Nat → Nat → Rat) (rt ct : Nat → Rat) : Prop where
  d0 : d ≠ 0
  db : d ≤ 2 ^ b
  C : ∀ c, c < n → ∀ i, i < m → Fr d (2 ^ b) (C c i)
  r : ∀ i, i < m → Fr d (2 ^ b) (rt i)
  w : ∀ c, c < n → Fr d (2 ^ b) (ct c)
  m16 : m ≤ 16
  nm : n + m < 1000
  bits : m * (b + 4) + b + 12 ≤ 950
/-- what a straight program tells -/
def LpR (m n a : Nat) (C : Nat → Nat → Rat) (rt ct : Nat → Rat) (o p : D) : Prop := ∃ y : Nat → Rat, Few a m y ∧ p = rwD m y ∧
  ((o = .tuple [] ∧ (∀ c, c < n → sm m (fun i => y i * C c i) ≤ 0) ∧ 0 < sm m fun i => y i * rt i) ∨
    ∃ x : Nat → Rat, Few a n x ∧ o = rwD n x ∧ (∀ c, 0 ≤ x c) ∧ (∀ i, i < m → sm n (fun c => x c * C c i) = rt i) ∧ (∀ c, c < n → sm m (fun i => y i * C c i) ≤ ct c) ∧ sm m (fun i => y i * rt i) = sm n fun c => ct c * x c)
def LpQ (m n a : Nat) (C : Nat → Nat → Rat) (rt ct : Nat → Rat) (S0 : Store) (v : Sx.R) (S : Store) : Prop := S = S0 ∧ ∃ o p, v = .d (.tuple [o, p]) ∧ LpR m n a C rt ct o p
section
variable {m n d b : Nat} {C : Nat → Nat → Rat} {rt ct : Nat → Rat}
theorem fr_one (h : d ≤ 2 ^ b) : Fr d (2 ^ b) 1 := ⟨d, by rw [Rat.one_mul]; rfl, by omega⟩
theorem fr_sg {q : Rat} (i : Nat) (h : Fr d (2 ^ b) q) : Fr d (2 ^ b) (q * sgR rt i) := by
  unfold sgR
  split
  · have : q * -1 = -q := by grind
    rw [this]; exact h.neg
  · rw [Rat.mul_one]; exact h
theorem LpOk.siz (h : LpOk m n d b C rt ct) : Siz m n (fbR m n C rt) d b := ⟨h.d0, h.db, fun i hi c hc => by
  unfold fbR
  split
  · exact fr_sg i (h.C c (by assumption) i hi)
  · split
    · split
      · exact fr_one h.db
      · exact Fr.zero
    · exact fr_sg i (h.r i hi), h.m16⟩
theorem LpOk.b1 (h : LpOk m n d b C rt ct) : Bits m n (fbR m n C rt) (w1 n) d b := ⟨h.siz, fun c _ => by
  unfold w1
  split
  · exact Fr.zero
  · exact fr_one h.db, h.nm, h.bits⟩
theorem LpOk.b2 (h : LpOk m n d b C rt ct) : Bits m n (fbR m n C rt) (w2 n ct) d b := ⟨h.siz, fun c _ => by
  unfold w2
  split
  · exact h.w c (by assumption)
  · exact Fr.zero, h.nm, h.bits⟩
theorem sg2 (rt : Nat → Rat) (i : Nat) : sgR rt i * sgR rt i = 1 := by
  unfold sgR
  split <;> grind
theorem fb_init (m n : Nat) (C : Nat → Nat → Rat) (rt : Nat → Rat) : Inv m n (fbR m n C rt) (fbR m n C rt) (fun k => n + k) := inv_init fun i hi k hk => by
  unfold fbR
  rw [if_neg (by omega), if_pos (by omega), Nat.add_sub_cancel_left]
  by_cases e : i = k
  · rw [if_pos e, if_pos e.symm]
  · rw [if_neg e, if_neg (Ne.symm e)]
theorem fb_last (m n : Nat) (C : Nat → Nat → Rat) (rt : Nat → Rat) (i : Nat) : fbR m n C rt i (n + m) = rt i * sgR rt i := by
  unfold fbR
  rw [if_neg (by omega), if_neg (by omega)]
theorem fb_feas (m n : Nat) (C : Nat → Nat → Rat) (rt : Nat → Rat) (i : Nat) : 0 ≤ fbR m n C rt i (n + m) := by
  rw [fb_last]
  unfold sgR
  split
  · rename_i h; grind
  · rename_i h; grind
theorem fb_col {i c : Nat} (hc : c < n) : fbR m n C rt i c = C c i * sgR rt i := by
  unfold fbR
  rw [if_pos hc]
theorem sum_col (y : Nat → Rat) {c : Nat} (hc : c < n) : sm m (fun i => sgR rt i * y i * C c i) = sm m fun i => y i * fbR m n C rt i c := sm_congr fun i _ => by rw [fb_col hc]; grind
theorem sum_last (n : Nat) (C : Nat → Nat → Rat) (y : Nat → Rat) : sm m (fun i => sgR rt i * y i * rt i) = sm m fun i => y i * fbR m n C rt i (n + m) := sm_congr fun i _ => by rw [fb_last]; grind
theorem bq_sg {a : Nat} {x : Rat} (i : Nat) (h : Bq a x) : Bq a (sgR rt i * x) := by
  unfold sgR
  split
  · have : (-1 : Rat) * x = -x := by grind
    rw [this]; exact h.neg
  · rw [Rat.one_mul]; exact h
theorem Bits.gap {w : Nat → Rat} {R X : Nat → Nat → Rat} {β : Nat → Nat} (h : Bits m n R w d b) (i : Inv m n R X β) {c : Nat} (hc : c < n + m) : Bq (m * (b + 4) + b + 6) (Lp.gap m w X β c) := Qo.bq (h.z.part i h.w (Nat.le_refl _) hc)
theorem Bits.pri {w : Nat → Rat} {R X : Nat → Nat → Rat} {β : Nat → Nat} (h : Bits m n R w d b) (i : Inv m n R X β) {j : Nat} (hj : j < m) : Bq (m * (b + 4) + 2 * b + 8) (w (n + j) - Lp.gap m w X β (n + j)) := by
  rw [Rat.sub_eq_add_neg]
  exact ((h.ws _ (by omega)).add (h.gap i (by omega)).neg).mono (by omega)
theorem few_sg {a : Nat} {f : Nat → Rat} (h : Few a m f) : Few a m fun i => sgR rt i * f i := h.sgn fun i _ => by
  unfold sgR
  split
  · right; grind
  · left; grind
end
theorem len_br {m w : Nat} {X : Nat → Nat → Rat} : bLen [brD m w X] = some (.int m) := by simp [bLen, brD]
theorem r_least_by (k : Nat) (S : Store) (m n d b : Nat) (C : Nat → Nat → Rat) (rt ct : Nat → Rat) (h : LpOk m n d b C rt ct) (costs : D) (hc : bTuple [costs] = some (rwD n ct)) (hy : ∃ y : Nat → Rat, ∀ c, c < n → sm m (fun i => y i * C c i) ≤ ct c) :
    Ok (runF Pf Gc (k + 8) "least_by" [.d (brD n m C), .d (rwD m rt), .d costs] S) (LpQ m n (m * (b + 4) + b + 4) C rt ct S) := by
  have g1 : Gc "ONE" = some (fr 1) := rfl
  have hm := h.m16
  have hn := h.nm
  have hbits := h.bits
  have fb := r_first_board (k + 3) S m n C rt (fun c hc i hi => (Qo.bq (fr_qo (h.C c hc i hi) h.d0 h.db (Nat.le_refl _))).sz (by omega)) (fun i hi => (Qo.bq (fr_qo (h.r i hi) h.d0 h.db (Nat.le_refl _))).sz (by omega)) (by omega) (by omega)
  have rn := fun S => r_noughts (k + 6) S n (by omega) (by omega)
  have rm := fun S => r_noughts (k + 6) S m (by omega) (by omega)
  simp only [Int.toNat_natCast, nul_rw] at rn rm
  have mu : opB .mul (.tuple [fr 1]) (.int m) = some (.tuple (List.replicate m [fr 1]).flatten) := by
    have := opB_mulT (xs := [fr 1]) (n := (m : Int)) ⟨by omega, by omega, by simp⟩
    rwa [Int.toNat_natCast] at this
  have ef : (List.replicate m [fr 1]).flatten = (List.range m).map fun _ => fr 1 := by
    rw [← rep_range]
    clear fb rm mu h hm hn hbits hy
    induction m with
    | zero => rfl
    | succ m ih => rw [List.replicate_succ, List.replicate_succ, List.flatten_cons, ih]; rfl
  rw [ef] at mu
  have ad1 : opB .add (rwD n fun _ => 0) (.tuple ((List.range m).map fun _ => fr 1)) = some (rwD (n + m) (w1 n)) := by
    have := opB_addT (xs := (List.range n).map fun _ => fr 0) (ys := (List.range m).map fun _ => fr 1) (by simp; unfold sizeLine; omega)
    rw [map_two] at this
    have e : (PyData.tuple ((List.range (n + m)).map fun c => if c < n then fr 0 else fr 1)) = rwD (n + m) (w1 n) := by
      unfold rwD w1
      congr 1
      refine List.map_congr_left fun c _ => ?_
      split <;> rfl
    rw [e] at this
    exact this
  have ad2 : opB .add (rwD n ct) (rwD m fun _ => 0) = some (rwD (n + m) (w2 n ct)) := by
    have := opB_addT (xs := (List.range n).map fun c => fr (ct c)) (ys := (List.range m).map fun _ => fr 0) (by simp; unfold sizeLine; omega)
    rw [map_two] at this
    have e : (PyData.tuple ((List.range (n + m)).map fun c => if c < n then fr (ct c) else fr 0)) = rwD (n + m) (w2 n ct) := by
      unfold rwD w2
      congr 1
      refine List.map_congr_left fun c _ => ?_
      split <;> rfl
    rw [e] at this
    exact this
  have rl : rngL [.int (n : Int), .int ((n : Int) + (m : Int))] = some (bsD m fun k => n + k) := by
    rw [rngL_2 ⟨by omega, by omega, by omega, by omega⟩ (by omega)]
    unfold bsD
    rw [show ((n : Int) + (m : Int) - n).toNat = m by omega]
    rfl
  rw [run_fn p_least_by rfl]
  simp -implicitDefEqProofs [fn_least_by, biD, len_br, len_rw, fb, rn, g1, mu, ad1, rl, lenFits, sizeLine]
  have d1 := r_descended (k + 1) S m n d b (fbR m n C rt) (w1 n) h.b1 (fun _ _ => True) (fun _ _ _ _ _ _ => trivial) (fun X β s hi _ hs hg => ends1 hi hg) (fbR m n C rt) (fun k => n + k) (fb_init m n C rt) (fun i _ => fb_feas m n C rt i) trivial
  refine d1.imp fun v S1 hQ => ?_
  obtain ⟨rfl, X1, β1, i1, f1, _, q1, rfl⟩ := hQ
  simp -implicitDefEqProofs []
  rw [lc_mapT (fun k => .tuple [rwD (n + m + 1) (X1 k), .int (β1 k : Nat)]) (fun k => .bool (decide (n ≤ β1 k) && decide (0 < X1 k (n + m)))) (List.range m) (by simp -implicitDefEqProofs [zip_bb]) (fun j hj acc => by
    have hj' := List.mem_range.mp hj
    have il := ix_last (w := n + m) (X1 j)
    by_cases hb : n ≤ β1 j
    · have hb' : (n : Int) ≤ β1 j := by omega
      by_cases hp : 0 < X1 j (n + m)
      · have hp' := num_pos' hp
        simp -implicitDefEqProofs [lcStep, wipeE, il, hb, hb', hp, hp']
      · have hp' : ¬ 0 < (X1 j (n + m)).num := fun z => hp (pos_num' z)
        simp -implicitDefEqProofs [lcStep, wipeE, il, hb, hb', hp, hp']
    · have hb' : ¬ (n : Int) ≤ β1 j := by omega
      simp -implicitDefEqProofs [lcStep, wipeE, il, hb, hb']) (by simp; omega)]
  have pr := fun S => r_prices (k + 3) S m n (gap m (w1 n) X1 β1) (sgR rt) (w1 n) (fun i hi => (h.b1.ws _ (by omega)).sz (by omega)) (fun i hi => (h.b1.gap i1 (by omega)).sz (by omega)) (fun i hi => (h.b1.pri i1 hi).sz (by omega)) (fun i _ => sg_sz rt i) (by omega)
  by_cases hv : ∃ j, j < m ∧ n ≤ β1 j ∧ 0 < X1 j (n + m)
  · have an : ((List.range m).map fun k => decide (n ≤ β1 k) && decide (0 < X1 k (n + m))).any id = true := by
      obtain ⟨j, hj, h1, h2⟩ := hv
      rw [List.any_map, List.any_eq_true]
      exact ⟨j, List.mem_range.mpr hj, by simp [h1, h2]⟩
    have ba : bAny [.list ((List.range m).map fun k => .bool (decide (n ≤ β1 k) && decide (0 < X1 k (n + m))))] = some (.bool true) := by
      show (bools ((List.range m).map fun k => .bool (decide (n ≤ β1 k) && decide (0 < X1 k (n + m))))).map (fun bs => PyData.bool (bs.any id)) = _
      rw [bools_map, Option.map_some, an]
    simp -implicitDefEqProofs [biD, ba, pr, lenFits, sizeLine]
    obtain ⟨v1, v2⟩ := void1 i1 f1 q1 hv
    refine ⟨rfl, _, _, rfl, _, few_sg (h.siz.pri i1 h.b1.w), rfl, .inl ⟨rfl, fun c hc => ?_, ?_⟩⟩
    · have := v1 c hc
      rw [← sum_col (rt := rt) (C := C) _ hc] at this
      exact this
    · have := v2
      rw [← sum_last n C] at this
      exact this
  · have an : ((List.range m).map fun k => decide (n ≤ β1 k) && decide (0 < X1 k (n + m))).any id = false := by
      rw [List.any_map, List.any_eq_false]
      intro j hj
      have hj := List.mem_range.mp hj
      by_cases h1 : n ≤ β1 j
      · have : ¬ 0 < X1 j (n + m) := fun z => hv ⟨j, hj, h1, z⟩
        simp [h1, this]
      · simp [h1]
    have ba : bAny [.list ((List.range m).map fun k => .bool (decide (n ≤ β1 k) && decide (0 < X1 k (n + m))))] = some (.bool false) := by
      show (bools ((List.range m).map fun k => .bool (decide (n ≤ β1 k) && decide (0 < X1 k (n + m))))).map (fun bs => PyData.bool (bs.any id)) = _
      rw [bools_map, Option.map_some, an]
    have o0 : Lp.Out m n (fbR m n C rt) X1 β1 0 := ⟨i1, f1, fun j hj hb => by
      have h1 := f1 j hj
      have h2 : ¬ 0 < X1 j (n + m) := fun z => hv ⟨j, hj, hb, z⟩
      grind, fun j hj => by omega⟩
    have dr := r_driven_out (k + 1) S1 m n d b (fbR m n C rt) h.siz hn hbits X1 β1 o0
    simp -implicitDefEqProofs [biD, ba]
    refine dr.imp fun v S2 hQ => ?_
    obtain ⟨rfl, X2, β2, o2, rfl⟩ := hQ
    obtain ⟨y, hy⟩ := hy
    have d2 := r_descended (k + 1) S2 m n d b (fbR m n C rt) (w2 n ct) h.b2 (fun X β => Spare m n X β) (fun X β r s hs st => hs.step st.hs) (fun X β s hi hs hs2 hg => ends2 (y := fun i => sgR rt i * y i) hi hs hs2 (fun c hc => by
      have := hy c hc
      have e : sm m (fun i => sgR rt i * y i * fbR m n C rt i c) = sm m fun i => y i * C c i := sm_congr fun i _ => by
        rw [fb_col hc]
        have := sg2 rt i
        grind
      rw [e]
      exact this) hg) X2 β2 o2.inv o2.feas o2.spare
    simp -implicitDefEqProofs [hc, rm, ad2]
    refine d2.imp fun v S3 hQ => ?_
    obtain ⟨rfl, X3, β3, i3, f3, s3, q3, rfl⟩ := hQ
    have inj : ∀ i j, i < m → j < m → β3 i = β3 j → i = j := fun i j hi hj e => i3.inj hi hj e
    have pr3 := fun S => r_prices (k + 3) S m n (gap m (w2 n ct) X3 β3) (sgR rt) (w2 n ct) (fun i hi => (h.b2.ws _ (by omega)).sz (by omega)) (fun i hi => (h.b2.gap i3 (by omega)).sz (by omega)) (fun i hi => (h.b2.pri i3 hi).sz (by omega)) (fun i _ => sg_sz rt i) (by omega)
    have wb := fun S => r_weights_by (k + 5) S m n X3 β3 inj (by omega)
    simp -implicitDefEqProofs [pr3, wb, lenFits, sizeLine]
    obtain ⟨l1, l2, l3, l4⟩ := least2 i3 f3 s3 q3
    refine ⟨rfl, _, _, rfl, _, few_sg (h.siz.pri i3 h.b2.w), rfl, .inr ⟨_, (Few.wts h.siz i3).mono (by omega), rfl, l1, fun i hi => ?_, fun c hc => ?_, ?_⟩⟩
    · have h1 := l2 i hi
      rw [fb_last] at h1
      have e : sm n (fun c => wts m n X3 β3 c * fbR m n C rt i c) = sgR rt i * sm n fun c => wts m n X3 β3 c * C c i := by
        rw [← sm_mul]
        exact sm_congr fun c hc => by rw [fb_col hc]; grind
      rw [e] at h1
      have := sg2 rt i
      have h2 : sgR rt i * (sgR rt i * sm n fun c => wts m n X3 β3 c * C c i) = sgR rt i * (rt i * sgR rt i) := by rw [h1]
      grind
    · have := l3 c hc
      rw [← sum_col (rt := rt) (C := C) _ hc] at this
      exact this
    · have := l4
      rw [← sum_last n C] at this
      exact this
end
--@ void_by
section
open Lp
def vC (s : Nat) (A : Nat → Nat → Rat) (bd : Nat → Rat) (c i : Nat) : Rat := if i < s then A c i else bd c
def vR (s i : Nat) : Rat := if i < s then 0 else -1
theorem sm_snoc (s : Nat) (A : Nat → Nat → Rat) (bd y : Nat → Rat) (c : Nat) : sm (s + 1) (fun i => y i * vC s A bd c i) = sm s (fun i => A c i * y i) + y s * bd c := by
  simp only [sm]
  unfold vC
  rw [if_neg (by omega)]
  congr 1
  exact sm_congr fun i hi => by rw [if_pos hi, Rat.mul_comm]
theorem wsLp {n s d b : Nat} {A : Nat → Nat → Rat} {bd : Nat → Rat} (h : WsOk n s d b A bd) : LpOk (s + 1) n d b (vC s A bd) (vR s) (fun _ => 0) := ⟨h.d0, h.db, fun c hc i hi => by
  unfold vC
  split
  · exact h.A c hc i (by assumption)
  · exact h.bd c hc, fun i hi => by
  unfold vR
  split
  · exact Fr.zero
  · exact (fr_one h.db).neg, fun c hc => Fr.zero, by have := h.s15; omega, by have := h.s15; have := h.n; omega, h.bits⟩
def VdR (n s a : Nat) (A : Nat → Nat → Rat) (bd : Nat → Rat) (o p : D) : Prop :=
  (∃ x : Nat → Rat, Few a n x ∧ o = rwD n x ∧ n ≠ 0 ∧ p = .tuple [] ∧ (∀ c, 0 ≤ x c) ∧ (∀ i, i < s → sm n (fun c => x c * A c i) = 0) ∧ sm n (fun c => x c * bd c) = -1) ∨
  ∃ z : Nat → Rat, Few a s z ∧ o = .tuple [] ∧ p = rwD s z ∧ ∀ c, c < n → sm s (fun i => A c i * z i) ≤ bd c
def VdQ (n s a : Nat) (A : Nat → Nat → Rat) (bd : Nat → Rat) (S0 : Store) (v : Sx.R) (S : Store) : Prop := S = S0 ∧ ∃ o p, v = .d (.tuple [o, p]) ∧ VdR n s a A bd o p
theorem r_void_by (k : Nat) (S : Store) (n s d b : Nat) (A : Nat → Nat → Rat) (bd : Nat → Rat) (h : WsOk n s d b A bd) :
    Ok (runF Pf Gc (k + 9) "void_by" [.d (brD n s A), .d (lsD n bd), .d (.int s)] S) (VdQ n s ((s + 1) * (b + 4) + b + 4) A bd S) := by
  have g2 : Gc "LESS" = some (fr (-1)) := rfl
  have hs := h.s15
  have hn := h.n
  have hbits := h.bits
  rw [run_fn p_void_by rfl]
  simp -implicitDefEqProofs [fn_void_by]
  have zp : zipD [brD n s A, lsD n bd] = some ((List.range n).map fun c => .tuple [rwD s (A c), fr (bd c)]) := by
    simp only [zipD, it_br, it_ls, Option.bind_some, Option.map_some, zip2_range, Nat.min_self]
  rw [lc_mapT (fun c => .tuple [rwD s (A c), fr (bd c)]) (fun c => rwD (s + 1) (vC s A bd c)) (List.range n) (by simp -implicitDefEqProofs [zp]) (fun c hc acc => by
    have ad := opB_addT (xs := (List.range s).map fun i => fr (A c i)) (ys := [fr (bd c)]) (by simp; unfold sizeLine; omega)
    rw [rw_snoc] at ad
    have ad : opB .add (rwD s (A c)) (.tuple [fr (bd c)]) = some (rwD (s + 1) (vC s A bd c)) := ad
    simp -implicitDefEqProofs [lcStep, wipeE, ad, lenFits, sizeLine]) (by simp; omega)]
  have eb : PyData.list ((List.range n).map fun c => rwD (s + 1) (vC s A bd c)) = brD n (s + 1) (vC s A bd) := rfl
  rw [eb]
  have ns := fun S => r_noughts (k + 7) S s (by omega) (by omega)
  have nn := fun S => r_noughts (k + 7) S n (by omega) (by omega)
  simp only [Int.toNat_natCast, nul_rw] at ns nn
  have ad := opB_addT (xs := (List.range s).map fun _ => fr 0) (ys := [fr (-1)]) (by simp; unfold sizeLine; omega)
  rw [rw_snoc] at ad
  have ad : opB .add (rwD s fun _ => 0) (.tuple [fr (-1)]) = some (rwD (s + 1) (vR s)) := ad
  have lb := r_least_by k S (s + 1) n d b (vC s A bd) (vR s) (fun _ => 0) (wsLp h) (rwD n fun _ => 0) tuple_rw ⟨fun _ => 0, fun c _ => by rw [sm_zero fun i _ => Rat.zero_mul _]; exact Rat.le_refl⟩
  simp -implicitDefEqProofs [ns, nn, g2, ad, biD, len_br, lenFits, sizeLine]
  refine lb.imp fun v S1 hQ => ?_
  obtain ⟨rfl, o, p, rfl, y, hy, rfl, hR⟩ := hQ
  rcases hR with ⟨rfl, h1, h2⟩ | ⟨x, hx, rfl, h1, h2, h3, h4⟩
  · have ys : y s < 0 := by
      have e : sm (s + 1) (fun i => y i * vR s i) = - y s := by
        simp only [sm]
        unfold vR
        rw [sm_zero fun i hi => by rw [if_pos hi, Rat.mul_zero], if_neg (by omega)]
        grind
      rw [e] at h2
      grind
    have ys0 : y s ≠ 0 := by grind
    have sl : slD (rwD (s + 1) y) none (some (s : Int)) = some (rwD s y) := by
      unfold rwD
      rw [sl_takeT (by simp)]
      congr 2
      rw [← List.map_take]
      congr 1
      rw [List.take_range]
      congr 1
      omega
    have tu := fun S => r_turned (k + 6) S ((List.range s).map y) (by simp; omega)
    have e2 : rowD (((List.range s).map y).map (- ·)) = rwD s fun i => -(y i) := by rw [rw_rowD, List.map_map]; rfl
    rw [e2] at tu
    simp only [← rw_rowD] at tu
    have en : eqD (.tuple []) (.tuple []) = some true := eqD_nilA (xs := [])
    have i1 := ix_rw (w := s + 1) y (show s < s + 1 by omega)
    simp -implicitDefEqProofs [en, cmpD, sl, tu, lenFits, sizeLine]
    rw [lc_mapT (fun i => fr (-(y i))) (fun i => fr (-(y i) / y s)) (List.range s) (by simp -implicitDefEqProofs [tu, it_rw, sl]) (fun i hi acc => by
      have hi' := List.mem_range.mp hi
      have ro := fun S => r_over (k + 5) S (-(y i)) (y s) ((Qo.bq (hy.qo (show i < s + 1 by omega))).neg.sz (by omega)) ((Qo.bq (hy.qo (show s < s + 1 by omega))).sz (by omega)) ys0
      simp -implicitDefEqProofs [lcStep, wipeE, i1, ro]) (by simp; omega)]
    simp -implicitDefEqProofs [biD, lenFits, sizeLine]
    refine ⟨rfl, _, _, rfl, .inr ⟨_, few_over hy ys0, rfl, rfl, fun c hc => ?_⟩⟩
    have h5 := h1 c hc
    rw [sm_snoc] at h5
    have e : sm s (fun i => A c i * (-(y i) / y s)) = (-1 / y s) * sm s fun i => A c i * y i := by
      rw [← sm_mul]
      exact sm_congr fun i _ => by rw [Rat.div_def, Rat.div_def]; grind
    rw [e]
    have h6 : 0 < -1 / y s := by
      have : 0 < (-y s)⁻¹ := Rat.inv_pos.mpr (by grind)
      rw [Rat.div_def]
      have e7 : (-y s)⁻¹ = -(y s)⁻¹ := by grind
      rw [e7] at this
      grind
    have h7 := Rat.mul_le_mul_of_nonneg_left (show sm s (fun i => A c i * y i) ≤ -(y s * bd c) by grind) (Rat.le_of_lt h6)
    have e8 : -1 / y s * -(y s * bd c) = bd c := by
      rw [Rat.div_def]
      have : y s * (y s)⁻¹ = 1 := Rat.mul_inv_cancel _ ys0
      grind
    rw [e8] at h7
    exact h7
  · have e := h2 s (by omega)
    have hn0 : n ≠ 0 := by
      rintro rfl
      simp only [sm] at e
      unfold vR at e
      rw [if_neg (by omega)] at e
      exact absurd e (by decide)
    have en := rw_isE (x := x) hn0
    simp -implicitDefEqProofs [en, cmpD, lenFits, sizeLine]
    refine ⟨rfl, _, _, rfl, .inl ⟨x, hx, rfl, hn0, rfl, h1, fun i hi => ?_, ?_⟩⟩
    · have := h2 i (by omega)
      unfold vR vC at this
      rw [if_pos hi] at this
      rw [← this]
      exact sm_congr fun c _ => by rw [if_pos hi]
    · unfold vR vC at e
      rw [if_neg (by omega)] at e
      rw [← e]
      exact sm_congr fun c _ => by rw [if_neg (by omega)]
end
--@ is_wish
theorem r_is_wish (k : Nat) (S : Store) (d : D) (many : Int) (hm : many ≤ 16777216) : runF Pf Gc (k + 5) "is_wish" [.d d, .d (.int many)] S = .ok (.d (.bool (wishB many d))) S := by
  rw [run_fn p_is_wish rfl]
  cases d <;> simp -implicitDefEqProofs [fn_is_wish, tyOf, wishB]
  rename_i ds
  match ds with
  | [] => simp -implicitDefEqProofs
  | [x] => simp -implicitDefEqProofs
  | [x, y] =>
    simp -implicitDefEqProofs (disch := omega) [r_is_row_by, r_is_ratio]
    cases rowB many x <;> simp -implicitDefEqProofs [r_is_ratio]
  | x :: y :: z :: t =>
    simp -implicitDefEqProofs
--@ is_lot_by
theorem r_is_lot_by (k : Nat) (S : Store) (d : D) (most : Int) (hm : most ≤ 16777216) : runF Pf Gc (k + 6) "is_lot_by" [.d d, .d (.int most)] S = .ok (.d (.bool (lotB most d))) S := by
  have g1 : Gc "MOST_SIZE" = some (.int 12) := rfl
  rw [run_fn p_is_lot_by rfl]
  cases d <;> simp -implicitDefEqProofs [fn_is_lot_by, tyOf, lotB]
  rename_i ds
  match ds with
  | [] => simp -implicitDefEqProofs
  | [x] => simp -implicitDefEqProofs
  | [x, y] =>
    simp -implicitDefEqProofs [r_is_between, g1]
    cases hx : betweenB x 1 12 <;> simp -implicitDefEqProofs
    obtain ⟨n, rfl, h1, h2⟩ := between_int hx
    cases y <;> simp -implicitDefEqProofs [tyOf, wishesB, numD]
    rename_i ws
    by_cases h3 : (ws.length : Int) ≤ most
    · have h4 : ¬ most < ws.length := by omega
      simp -implicitDefEqProofs [h3, h4]
      rw [lc_map (xs := ws) (g := fun x => .bool (wishB n x)) (by simp -implicitDefEqProofs) (fun x hx acc => by simp -implicitDefEqProofs (disch := omega) [lcStep, wipeE, r_is_wish]) (by omega)]
      simp -implicitDefEqProofs
    · have h4 : most < ws.length := by omega
      simp -implicitDefEqProofs [h3, h4]
  | x :: y :: z :: t =>
    simp -implicitDefEqProofs
--@ rows_in
section
open Lp
theorem r_rows_in (k : Nat) (S : Store) (n : Int) (ws : List Wish) (hl : ws.length ≤ 1000) : runF Pf Gc (k + 1) "rows_in" [.d (lotD n ws)] S = .ok (.d (.list ((ws.map Wish.r).map rowD))) S := by
  rw [run_fn p_rows_in rfl]
  simp -implicitDefEqProofs [fn_rows_in]
  rw [lc_mapT wishD (fun w => rowD w.r) ws (by simp -implicitDefEqProofs) (fun w hw' acc => by simp -implicitDefEqProofs [lcStep, wipeE]) (by omega)]
  simp -implicitDefEqProofs
end
--@ bounds_in
section
open Lp
theorem r_bounds_in (k : Nat) (S : Store) (n : Int) (ws : List Wish) (hl : ws.length ≤ 1000) : runF Pf Gc (k + 1) "bounds_in" [.d (lotD n ws)] S = .ok (.d (.list ((ws.map Wish.b).map fr))) S := by
  rw [run_fn p_bounds_in rfl]
  simp -implicitDefEqProofs [fn_bounds_in]
  rw [lc_mapT wishD (fun w => fr w.b) ws (by simp -implicitDefEqProofs) (fun w hw' acc => by simp -implicitDefEqProofs [lcStep, wipeE]) (by omega)]
  simp -implicitDefEqProofs
end
--@ lies_by
theorem r_lies_by (k : Nat) (S : Store) (n : Int) (ws : List Wish) (pt : List Rat) (j m jb mb jp mp : Nat) (hw : LotQb j m jb mb ws) (hp : ∀ q ∈ pt, Qb jp mp q) (hl : ws.length ≤ 1000) (hb : m + mp + 31 + 13 * (j + jp) < 1900) (hb2 : mb + 13 * jb < 1900) :
    runF Pf Gc (k + 5) "lies_by" [.d (lotD n ws), .d (rowD pt)] S = .ok (.d (.bool (liesQ ws pt))) S := by
  rw [run_fn p_lies_by rfl]
  simp -implicitDefEqProofs [fn_lies_by]
  rw [lc_mapT wishD (fun w => .bool (decide (dotQ w.r pt ≤ w.b))) ws (by simp -implicitDefEqProofs) (fun w hw' acc => by
    obtain ⟨h1, h2, h3⟩ := hw w hw'
    have dt := r_dot k (S ++ [.lst acc]) (rowD w.r) (rowD pt) w.r pt j jp m mp rfl rfl h1 hp h3 hb
    have dq := dotQ_qb h1 hp
    have up := r_is_up_to (k + 3) (S ++ [.lst acc]) (dotQ w.r pt) w.b (dq.sz (by omega)) (h2.sz hb2)
    simp -implicitDefEqProofs [lcStep, wipeE, dt, up]) (by omega)]
  simp -implicitDefEqProofs [liesQ]
--@ void_weights
section
open Lp
theorem r_void_weights (k : Nat) (S : Store) (s d b : Nat) (ws : List Wish) (h : LotF s d b ws) :
    Ok (runF Pf Gc (k + 10) "void_weights" [.d (lotD s ws)] S) (VdQ ws.length s ((s + 1) * (b + 4) + b + 4) (wA ws) (wB ws) S) := by
  have hn := h.n
  have ri := fun S => r_rows_in (k + 8) S (s : Int) ws (by omega)
  have bi := fun S => r_bounds_in (k + 8) S (s : Int) ws (by omega)
  simp only [rows_br h.len, bnds_ls] at ri bi
  have vb := r_void_by k S ws.length s d b (wA ws) (wB ws) h.ok
  rw [run_fn p_void_weights rfl]
  simp -implicitDefEqProofs [fn_void_weights, ri, bi]
  refine vb.imp fun v S1 hQ => ?_
  obtain ⟨rfl, o, p, rfl, hR⟩ := hQ
  simp -implicitDefEqProofs
  exact ⟨rfl, o, p, rfl, hR⟩
end
--@ check_lot
theorem r_check_lot (k : Nat) (S : Store) (n : Int) (ws : List Wish) (h : Rows n ws) (h0 : 1 ≤ n) (h1 : n ≤ 12) (hl : ws.length ≤ 100) : runF Pf Gc (k + 7) "check_lot" [.d (lotD n ws)] S = .ok (.d .none) S := by
  have hb := lot_okL (most := 100) h h0 h1 (by omega)
  rw [run_fn p_check_lot rfl]
  simp -implicitDefEqProofs (disch := omega) [fn_check_lot, KE.pick, r_is_lot_by, hb, List.getElem?_cons_zero, List.getElem?_cons_succ]
--@ lies_in
theorem r_lies_in (k : Nat) (S : Store) (n : Int) (ws : List Wish) (pt : List Rat) (j m jb mb jp mp : Nat) (h : Rows n ws) (h0 : 1 ≤ n) (h1 : n ≤ 12) (hl : ws.length ≤ 100) (hn : (pt.length : Int) = n) (hw : LotQb j m jb mb ws) (hp : ∀ q ∈ pt, Qb jp mp q) (hb : m + mp + 31 + 13 * (j + jp) < 1900) (hb2 : mb + 13 * jb < 1900) :
    runF Pf Gc (k + 8) "lies_in" [.d (lotD n ws), .d (rowD pt)] S = .ok (.d (.bool (liesQ ws pt))) S := by
  rw [run_fn p_lies_in rfl]
  simp -implicitDefEqProofs [fn_lies_in, r_check_lot _ _ n ws h h0 h1 hl, r_check_row _ _ n pt hn, r_lies_by _ _ n ws pt j m jb mb jp mp hw hp (by omega) hb hb2]
--@ point_of
section
open Lp
def PtQ (n s a : Nat) (A : Nat → Nat → Rat) (bd : Nat → Rat) (S0 : Store) (r : Sx.R) (S : Store) : Prop :=
  S = S0 ∧ ((∃ z, Few a s z ∧ r = .d (rwD s z) ∧ InL n s A bd z) ∨ (r = .d .none ∧ ¬ ∃ y, InL n s A bd y))
theorem r_point_of (k : Nat) (S : Store) (s d b : Nat) (ws : List Wish) (h : LotF s d b ws) :
    Ok (runF Pf Gc (k + 11) "point_of" [.d (lotD s ws)] S) (PtQ ws.length s ((s + 1) * (b + 4) + b + 4) (wA ws) (wB ws) S) := by
  have s1 := h.s1
  have s12 := h.s12
  have wl := h.n
  have hrows : Rows (s : Int) ws := fun w hw => by rw [h.len w hw]
  have vw := r_void_weights k S s d b ws h
  rw [run_fn p_point_of rfl]
  simp -implicitDefEqProofs [fn_point_of, r_check_lot (k + 3) S (s : Int) ws hrows (by omega) (by omega) (by omega)]
  refine vw.imp fun v S1 hQ => ?_
  obtain ⟨rfl, o, p, rfl, hR⟩ := hQ
  rcases hR with ⟨x, hx, rfl, hn0, rfl, h1, h2, h3⟩ | ⟨z, hz, rfl, rfl, h1⟩
  · have en := rw_isE (x := x) hn0
    simp -implicitDefEqProofs [en, cmpD, lenFits, sizeLine]
    refine ⟨rfl, .inr ⟨rfl, fun ⟨y, hy⟩ => ?_⟩⟩
    have := weak (fun c _ => h1 c) hy
    rw [sm_zero fun i hi => by rw [h2 i hi, Rat.zero_mul], h3] at this
    exact absurd this (by decide)
  · have en : eqD (.tuple []) (.tuple []) = some true := eqD_nilA (xs := [])
    simp -implicitDefEqProofs [en, cmpD, lenFits, sizeLine]
    exact ⟨rfl, .inl ⟨z, hz, rfl, h1⟩⟩
end
--@ _law_same
section
open Lp
theorem same_int (k : Nat) (S : Store) (a : Int) : runF Pf Gc (k + 1) "_law_same" [.d (.int a), .d (.int a)] S = .ok (.d (.bool true)) S := by
  rw [run_fn p__law_same rfl]
  have c1 : cmpD .isx (.int a) .none = some false := rfl
  simp -implicitDefEqProofs [fn__law_same, tyOf, c1]
theorem same_str (k : Nat) (S : Store) (a : Str) : runF Pf Gc (k + 1) "_law_same" [.d (.str a), .d (.str a)] S = .ok (.d (.bool true)) S := by
  rw [run_fn p__law_same rfl]
  have c1 : cmpD .isx (.str a) .none = some false := rfl
  simp -implicitDefEqProofs [fn__law_same, tyOf, c1]
theorem same_tup (k : Nat) (S : Store) (ds : List D) (hl : ds.length ≤ 1000000) (h : ∀ x ∈ ds, ∀ S, runF Pf Gc (k + 1) "_law_same" [.d x, .d x] S = .ok (.d (.bool true)) S) : runF Pf Gc (k + 2) "_law_same" [.d (.tuple ds), .d (.tuple ds)] S = .ok (.d (.bool true)) S := by
  rw [run_fn p__law_same rfl]
  have zp : zipD [.tuple ds, .tuple ds] = some (ds.map fun x => .tuple [x, x]) := by
    show some (zip2 ds ds) = _
    rw [zip2_self]
  simp -implicitDefEqProofs [fn__law_same, tyOf]
  rw [lc_mapT (fun x => .tuple [x, x]) (fun _ => .bool true) ds (by simp -implicitDefEqProofs [zp]) (fun x hx acc => by
    simp -implicitDefEqProofs [lcStep, wipeE, h x hx]) (by omega)]
  have ba : bAll [.list (ds.map fun _ => .bool true)] = some (.bool true) := by
    show (bools (ds.map fun _ => .bool true)).map (fun bs => PyData.bool (bs.all id)) = _
    rw [bools_map (f := fun _ => true)]
    simp
  simp -implicitDefEqProofs [biD, ba]
theorem same_fr (k : Nat) (S : Store) (q : Rat) : runF Pf Gc (k + 2) "_law_same" [.d (fr q), .d (fr q)] S = .ok (.d (.bool true)) S :=
  same_tup k S [.int q.num, .int q.den] (by simp) fun x hx S => by
    simp only [List.mem_cons, List.not_mem_nil, or_false] at hx
    rcases hx with rfl | rfl <;> exact same_int k S _
theorem same_rw (k : Nat) (S : Store) (n : Nat) (f : Nat → Rat) (hn : n ≤ 1000) : runF Pf Gc (k + 3) "_law_same" [.d (rwD n f), .d (rwD n f)] S = .ok (.d (.bool true)) S :=
  same_tup (k + 1) S _ (by simp; omega) fun x hx S => by
    obtain ⟨c, _, rfl⟩ := List.mem_map.mp hx
    exact same_fr k S _
theorem same_gr (k : Nat) (S : Store) (s n : Nat) (g : Rat) (y x : Nat → Rat) (hs : s ≤ 1000) (hn : n ≤ 1000) : runF Pf Gc (k + 4) "_law_same" [.d (.tuple [.str (Str.ofString "greatest"), fr g, rwD s y, rwD n x]), .d (.tuple [.str (Str.ofString "greatest"), fr g, rwD s y, rwD n x])] S = .ok (.d (.bool true)) S :=
  same_tup (k + 2) S _ (by simp) fun d hd S => by
    simp only [List.mem_cons, List.not_mem_nil, or_false] at hd
    rcases hd with rfl | rfl | rfl | rfl
    · exact same_str (k + 2) S _
    · exact same_fr (k + 1) S g
    · exact same_rw k S s y hs
    · exact same_rw k S n x hn
end
--@ _law_well
theorem r__law_well (k : Nat) (S : Store) (ns : List Int) (t : Int) (b : Int) (hS : S[0]? = some (.ro (ns.map PyData.int))) (h0 : 0 ≤ t) (h1 : t < 1000) (hb : b ≤ 2 ^ 190) :
    Ok (runF Pf Gc (k + 1) "_law_well" [.ref 0, .d (.int t)] S) (fun r S' => ∃ c, r = .ref S.length ∧ S' = S ++ [c] ∧ Urn S' S.length b) := by
  rw [run_fn p__law_well rfl]
  have own : ∃ o : Int, dE (runF Pf Gc k) Gc (.ite (.cmp .lt (.v 1) (.bi .len [.v 0])) (.bi .int [.ix (.v 0) (.v 1)]) (.i 0)) [some (.ref 0), some (.d (.int t)), none, none, none] S = .ok (.d (.int o)) S := by
    by_cases hl : t < ns.length
    · have hx : L2.atI (ns.map PyData.int) t = some (.int (ns[t.toNat]'(by omega))) := by
        unfold L2.atI L2.ixN
        rw [if_pos h0, if_pos (by simpa using hl)]
        simp -implicitDefEqProofs
      refine ⟨ns[t.toNat]'(by omega), ?_⟩
      simp -implicitDefEqProofs (disch := omega) [hS, hl, hx, -getElem?_pos]
    · refine ⟨0, ?_⟩
      simp -implicitDefEqProofs (disch := omega) [hS, hl, -getElem?_pos]
  obtain ⟨o, ho⟩ := own
  have hbody : fn__law_well.body = (.asg (.v 2) (.ite (.cmp .lt (.v 1) (.bi .len [.v 0])) (.bi .int [.ix (.v 0) (.v 1)]) (.i 0))) :: fn__law_well.body.tail := rfl
  rw [hbody, dB_cons, dS_asg]
  show Ok (back S.length (((dE (runF Pf Gc k) Gc (.ite (.cmp .lt (.v 1) (.bi .len [.v 0])) (.bi .int [.ix (.v 0) (.v 1)]) (.i 0)) [some (.ref 0), some (.d (.int t)), none, none, none] S).bind _).bind _)) _
  rw [ho]
  simp -implicitDefEqProofs (disch := omega) [fn__law_well, hS, mul_lt200, -getElem?_pos]
  refine for_inv (fun _ e S' => S' = S ∧ ∃ (s : Int) (x : Option R), e = [some (.ref 0), some (.d (.int t)), some (.d (.int o)), some (.d (.int s)), x] ∧ 0 ≤ s ∧ s < 2 ^ 40) ⟨rfl, _, _, rfl, by omega, by omega⟩ (fun j x e S' hx hI => ?_) (fun e S' hI => ?_)
  · obtain ⟨rfl, s, y, rfl, h2, h3⟩ := hI
    obtain ⟨m, rfl⟩ := cutD_int hx
    simp -implicitDefEqProofs (disch := omega) [forB_app, mul_lt200, opB_mod, fmod_emod]
    have h4 := Int.emod_nonneg (s * 57349 + m % 2147483399 + 19) (b := 2147483587) (by decide)
    have h5 := Int.emod_lt_of_pos (s * 57349 + m % 2147483399 + 19) (b := 2147483587) (by decide)
    omega
  · obtain ⟨rfl, s, y, rfl, h2, h3⟩ := hI
    have h4 := Int.emod_nonneg o (b := 2147483399) (by decide)
    have h5 := Int.emod_lt_of_pos o (b := 2147483399) (by decide)
    have h6 := Int.emod_nonneg (s * 37 + o % 2147483399 * 20011 + 11) (b := 2147483587) (by decide)
    have h7 := Int.emod_lt_of_pos (s * 37 + o % 2147483399 * 20011 + 11) (b := 2147483587) (by decide)
    by_cases ho : o < 0
    · simp -implicitDefEqProofs (disch := omega) [mul_lt200, opB_mod, fmod_emod, pow_lt64, ho, lenFits, sizeLine]
      exact ⟨_, _, _, get_new, by omega, h6, by omega, by omega, by omega⟩
    · by_cases ho2 : 10000000000000000 ≤ o
      · simp -implicitDefEqProofs (disch := omega) [mul_lt200, opB_mod, fmod_emod, pow_lt64, ho, ho2, lenFits, sizeLine]
        exact ⟨_, _, _, get_new, by omega, h6, by omega, by omega, by omega⟩
      · simp -implicitDefEqProofs (disch := omega) [mul_lt200, opB_mod, fmod_emod, pow_lt64, ho, ho2, lenFits, sizeLine]
        exact ⟨_, _, _, get_new, by omega, h6, by omega, by omega, by omega⟩
--@ _law_draw
theorem r__law_draw (k : Nat) (S : Store) (i : Nat) (top b : Int) (h : Urn S i b) (hb : 1 ≤ b) (h0 : 0 < top) (h1 : top < 2 ^ 190) : Ok (runF Pf Gc (k + 1) "_law_draw" [.ref i, .d (.int top)] S) (Drew i S top (b - 1)) := by
  have hi := h.lt
  obtain ⟨a, s, c, e, ha, hs, hs2, hc, hcb⟩ := h
  rw [run_fn p__law_draw rfl]
  by_cases ha0 : 0 < a
  · simp -implicitDefEqProofs (disch := omega) [fn__law_draw, e, ha0, L2.atI, L2.ixN, divmod_lt200, -getElem?_pos, List.getElem?_cons_zero, List.getElem?_cons_succ, get_set]
    refine ⟨_, rfl, Int.emod_nonneg _ (by omega), Int.emod_lt_of_pos _ h0, ⟨a / top, s, c, get_set hi, Int.ediv_nonneg ha (by omega), hs, hs2, hc, by omega⟩, Same.set _ _ _⟩
  · simp -implicitDefEqProofs (disch := omega) [fn__law_draw, e, ha0, L2.atI, L2.ixN, mul_lt200, opB_mod, fdiv_lt200, fmod_emod, fdiv_ediv, get_set, -getElem?_pos, List.getElem?_cons_zero, List.getElem?_cons_succ]
    refine ⟨_, rfl, Int.emod_nonneg _ (by omega), Int.emod_lt_of_pos _ h0, ⟨a, _, c + 1, get_set hi, ha, Int.emod_nonneg _ (by omega), ?_, by omega, by omega⟩, Same.set _ _ _⟩
    have := Int.emod_lt_of_pos (s * 40014 + (c + 1) * 52387 + 5) (b := 2147483587) (by decide)
    omega
--@ _law_of
theorem r__law_of (k : Nat) (S : Store) (i : Nat) (b : Int) (xs : List D) (h : Urn S i b) (hb : 1 ≤ b) (h0 : 0 < xs.length) (h1 : xs.length < 1000000000) :
    Ok (runF Pf Gc (k + 2) "_law_of" [.ref i, .d (.tuple xs)] S) (Dn i S (b - 1) (fun d => d ∈ xs)) := by
  rw [run_fn p__law_of rfl]
  simp -implicitDefEqProofs [fn__law_of]
  refine (r__law_draw k S i xs.length b h hb (by omega) (by omega)).imp ?_
  rintro r S' ⟨n, rfl, n0, n1, hu, hs⟩
  obtain ⟨d, hd, e⟩ := atI_at n0 n1
  simp -implicitDefEqProofs [e, take_same hs.1]
  exact ⟨d, rfl, hd, hu, hs⟩
theorem r__law_of_ref (k : Nat) (S : Store) (i n : Nat) (b : Int) (xs : List D) (h : Urn S i b) (hn : S[n]? = some (.lst xs)) (hin : n ≠ i) (hb : 1 ≤ b) (h0 : 0 < xs.length) (h1 : xs.length < 1000000000) :
    Ok (runF Pf Gc (k + 2) "_law_of" [.ref i, .ref n] S) (Dn i S (b - 1) (fun d => d ∈ xs)) := by
  rw [run_fn p__law_of rfl]
  simp -implicitDefEqProofs [fn__law_of, hn, -getElem?_pos]
  refine (r__law_draw k S i xs.length b h hb (by omega) (by omega)).imp ?_
  rintro r S' ⟨n', rfl, n0, n1, hu, hs⟩
  obtain ⟨d, hd, e⟩ := atI_at n0 n1
  have hn' := (hs.2 n hin).trans hn
  simp -implicitDefEqProofs [e, hn', take_same hs.1, -getElem?_pos]
  exact ⟨d, rfl, hd, hu, hs⟩
--@ _law_frac
theorem r__law_frac (k : Nat) (S : Store) (a b : Int) (hb : b ≠ 0) (hs : Bt 8000 b) : runF Pf Gc (k + 1) "_law_frac" [.d (.int a), .d (.int b)] S = .ok (.d (fr (Rat.divInt a b))) S := by
  apply Ok.to
  rw [run_fn p__law_frac rfl]
  simp -implicitDefEqProofs [fn__law_frac, setAll, abs_nat]
  refine wh_inv (fun m e S' => S' = S ∧ ∃ far near : Nat, e = [some (.d (.int a)), some (.d (.int b)), some (.d (.int far)), some (.d (.int near))] ∧ Nat.gcd far near = Nat.gcd a.natAbs b.natAbs ∧ m = near) (m := b.natAbs) ⟨rfl, a.natAbs, b.natAbs, rfl, rfl, rfl⟩ (fun m e S' hI => ?_)
  obtain ⟨rfl, far, near, rfl, hg, hm⟩ := hI
  subst m
  simp -implicitDefEqProofs
  by_cases h0 : 0 < near
  · have hne : (near : Int) ≠ 0 := by omega
    simp -implicitDefEqProofs [h0, opB_mod hne, setAll, fmod_emod (show (0 : Int) < near by omega)]
    refine ⟨far % near, Nat.mod_lt _ h0, near, ⟨rfl, by simp⟩, ?_⟩
    rw [← hg, Nat.gcd_comm near, ← Nat.gcd_rec, Nat.gcd_comm]
  · have hz : near = 0 := by omega
    subst hz
    rw [Nat.gcd_zero_right] at hg
    subst hg
    have e := gg_ne (a := a) hb
    have l := gg_bt (a := a) hb hs
    have m1 := fun i => fdiv_bt (i := i) e l (by omega)
    rw [fr_div hb]
    by_cases hp : 0 < b
    · have eg : gg a b = ((Nat.gcd a.natAbs b.natAbs : Nat) : Int) := if_pos hp
      simp -implicitDefEqProofs [hp, ← eg, m1, lenFits, sizeLine]
    · have eg : gg a b = -((Nat.gcd a.natAbs b.natAbs : Nat) : Int) := if_neg hp
      simp -implicitDefEqProofs [hp, ← eg, m1, lenFits, sizeLine]
--@ _law_plus
theorem r__law_plus (k : Nat) (S : Store) (p q : Rat) (hp : Sz p) (hq : Sz q) : runF Pf Gc (k + 2) "_law_plus" [.d (fr p), .d (fr q)] S = .ok (.d (fr (p + q))) S := by
  rw [run_fn p__law_plus rfl]
  obtain ⟨m1, m2, m3, m4, m5⟩ := sz_plus hp hq
  rw [← add_div]
  have hr := r__law_frac k S (p.num * q.den + q.num * p.den) (p.den * q.den) (mulden_ne p q) m5
  simp only [fr] at hr ⊢
  simp -implicitDefEqProofs [fn__law_plus, m1, m2, m3, hr]
--@ _law_times
theorem r__law_times (k : Nat) (S : Store) (p q : Rat) (hp : Sz p) (hq : Sz q) : runF Pf Gc (k + 2) "_law_times" [.d (fr p), .d (fr q)] S = .ok (.d (fr (p * q))) S := by
  rw [run_fn p__law_times rfl]
  obtain ⟨m1, m2, m3, m4, m5⟩ := sz_plus hp hq
  rw [← mul_div']
  have hr := r__law_frac k S (p.num * q.num) (p.den * q.den) (mulden_ne p q) m5
  simp only [fr] at hr ⊢
  simp -implicitDefEqProofs [fn__law_times, m4, m3, hr]
--@ _law_up_to
theorem r__law_up_to (k : Nat) (S : Store) (p q : Rat) (hp : Sz p) (hq : Sz q) : runF Pf Gc (k + 1) "_law_up_to" [.d (fr p), .d (fr q)] S = .ok (.d (.bool (decide (p ≤ q)))) S := by
  rw [run_fn p__law_up_to rfl]
  obtain ⟨m1, m2, m3, m4, m5⟩ := sz_plus hp hq
  rw [← up_to]
  simp -implicitDefEqProofs [fn__law_up_to, fr, m1, m2]
--@ _law_dot
theorem r__law_dotZ (k : Nat) (S : Store) (A B : D) (ps qs : List Rat) (Z : Nat → Rat → Prop) (hA : itemsD A = some (ps.map fr)) (hB : itemsD B = some (qs.map fr)) (z0 : Z 0 0) (hp : ∀ p ∈ ps, Sz p) (hq : ∀ q ∈ qs, Sz q) (hpq : ∀ p ∈ ps, ∀ q ∈ qs, Sz (p * q))
    (hz : ∀ t a, t ≤ ps.length → Z t a → Sz a) (hs : ∀ t a, t < ps.length → Z t a → ∀ p ∈ ps, ∀ q ∈ qs, Z (t + 1) (a + p * q)) :
    runF Pf Gc (k + 3) "_law_dot" [.d A, .d B] S = .ok (.d (fr (dotQ ps qs))) S := by
  apply Ok.to
  rw [run_fn p__law_dot rfl]
  simp -implicitDefEqProofs [fn__law_dot, zipD, hA, hB, lenFits, sizeLine]
  have loop : ∀ (ps' qs' : List Rat) (a : Rat) (t : Nat) (y3 y4 : Option R), Z t a → (∀ p ∈ ps', p ∈ ps) → (∀ q ∈ qs', q ∈ qs) → t + ps'.length = ps.length →
      ∃ z3 z4, forD (forB (runF Pf Gc (k + 2)) Gc (.t [.v 3, .v 4]) [.asg (.v 2) (.call "_law_plus" [.v 2, .call "_law_times" [.v 3, .v 4]])]) (zip2 (ps'.map fr) (qs'.map fr)) [some (.d A), some (.d B), some (.d (fr a)), y3, y4] S = .ok (.nx, [some (.d A), some (.d B), some (.d (fr (dotF a ps' qs'))), z3, z4]) S := by
    intro ps'
    induction ps' with
    | nil => intro qs a t y3 y4 _ _ _ _; cases qs <;> exact ⟨y3, y4, rfl⟩
    | cons p ps' ih =>
      intro qs' a t y3 y4 ha hps hqs ht
      cases qs' with
      | nil => exact ⟨y3, y4, rfl⟩
      | cons q qs' =>
        rw [List.length_cons] at ht
        have p1 := hps p List.mem_cons_self
        have q1 := hqs q List.mem_cons_self
        have hn := hs t a (by omega) ha p p1 q q1
        obtain ⟨z3, z4, e⟩ := ih qs' (a + p * q) (t + 1) (some (.d (fr p))) (some (.d (fr q))) hn (fun x hx => hps x (List.mem_cons_of_mem _ hx)) (fun x hx => hqs x (List.mem_cons_of_mem _ hx)) (by omega)
        refine ⟨z3, z4, ?_⟩
        rw [List.map_cons, List.map_cons, zip2, forD_cons]
        have rt := r__law_times k S p q (hp p p1) (hq q q1)
        have rp := r__law_plus k S a (p * q) (hz t a (by omega) ha) (hpq p p1 q q1)
        simp -implicitDefEqProofs [forB_app, rt, rp, e, dotF]
  obtain ⟨z3, z4, e⟩ := loop ps qs 0 0 none none z0 (fun _ h => h) (fun _ h => h) (by omega)
  rw [show PyData.tuple [.int 0, .int 1] = fr 0 from rfl, e]
  simp -implicitDefEqProofs [dotQ]
theorem r__law_dot (k : Nat) (S : Store) (A B : D) (ps qs : List Rat) (j j' m m' : Nat) (hA : itemsD A = some (ps.map fr)) (hB : itemsD B = some (qs.map fr)) (hp : ∀ p ∈ ps, Qb j m p) (hq : ∀ q ∈ qs, Qb j' m' q) (hl : ps.length ≤ 30) (hb : m + m' + 31 + 13 * (j + j') < 1900) :
    runF Pf Gc (k + 3) "_law_dot" [.d A, .d B] S = .ok (.d (fr (dotQ ps qs))) S :=
  r__law_dotZ k S A B ps qs (fun t a => Qb (j + j') (m + m' + t) a) hA hB Qb.zero (fun p h => (hp p h).sz (by omega)) (fun q h => (hq q h).sz (by omega)) (fun p h q g => ((hp p h).mul (hq q g)).sz (by omega))
    (fun t a ht h => h.sz (by omega)) fun t a ht h p hp' q hq' => (h.add ((hp p hp').mul (hq q hq'))).mono (by omega) (by omega)
theorem r__law_dotB (k : Nat) (S : Store) (A B : D) (ps qs : List Rat) (a b : Nat) (hA : itemsD A = some (ps.map fr)) (hB : itemsD B = some (qs.map fr)) (hp : ∀ p ∈ ps, Bq a p) (hq : ∀ q ∈ qs, Bq b q) (hb : (ps.length + 1) * (a + b + 1) < 1900) :
    runF Pf Gc (k + 3) "_law_dot" [.d A, .d B] S = .ok (.d (fr (dotQ ps qs))) S :=
  have l : a + b < 1900 := by have := Nat.mul_le_mul_right (a + b + 1) (show 1 ≤ ps.length + 1 by omega); omega
  have hb' : ps.length * (a + b + 1) < 1900 := by have := Nat.mul_le_mul_right (a + b + 1) (show ps.length ≤ ps.length + 1 by omega); omega
  r__law_dotZ k S A B ps qs (Bz (a + b)) hA hB Bz.zero (fun p h => (hp p h).sz (by omega)) (fun q h => (hq q h).sz (by omega)) (fun p h q g => ((hp p h).mul (hq q g)).sz (by omega))
    (fun t c ht h => h.sz ht hb') fun t c ht h p hp' q hq' => h.step ((hp p hp').mul (hq q hq'))
section
open Lp
theorem few_Z {a b n : Nat} {x g : Nat → Rat} (hx : Few a n x) (hg : Few b n g) (hn : n ≤ 1000) (hb : a + b + 20 ≤ 1900) :
    ∃ Z : Nat → Rat → Prop, Z 0 0 ∧ (∀ q ∈ (List.range n).map x, Sz q) ∧ (∀ q ∈ (List.range n).map g, Sz q) ∧ (∀ p ∈ (List.range n).map x, ∀ q ∈ (List.range n).map g, Sz (p * q)) ∧ (∀ t q, t ≤ n → Z t q → Sz q) ∧ (∀ t c, t < n → Z t c → ∀ p ∈ (List.range n).map x, ∀ q ∈ (List.range n).map g, Z (t + 1) (c + p * q)) := by
  obtain ⟨Q, q0, qb, hf⟩ := hx
  obtain ⟨P, p0, pb, hg⟩ := hg
  have qd : Q * P ≤ 2 ^ (a + b) := by rw [Nat.pow_add]; exact Nat.mul_le_mul qb pb
  have qd0 := Nat.mul_ne_zero q0 p0
  have mx : ∀ {q : Rat}, q ∈ (List.range n).map x → Fr Q (2 ^ a) q := fun {q} hq => by
    obtain ⟨c, hc, rfl⟩ := List.mem_map.mp hq
    exact hf c (List.mem_range.mp hc)
  have mg : ∀ {q : Rat}, q ∈ (List.range n).map g → Fr P (2 ^ b) q := fun {q} hq => by
    obtain ⟨c, hc, rfl⟩ := List.mem_map.mp hq
    exact hg c (List.mem_range.mp hc)
  refine ⟨fun t q => Fr (Q * P) (t * 2 ^ (a + b)) q, Fr.zero, fun q hq => fr_sz (mx hq) q0 qb (Nat.le_refl _) (by omega), fun q hq => fr_sz (mg hq) p0 pb (Nat.le_refl _) (by omega), fun p hp q hq => fr_sz (fr_part (mx hp) (mg hq)) qd0 qd (Nat.le_refl _) (by omega), fun t q ht h1 => ?_, fun t c ht h1 p hp q hq => ?_⟩
  · refine fr_sz (a := a + b + 10) h1 qd0 (Nat.le_trans qd (Nat.pow_le_pow_right (by decide) (by omega))) ?_ (by omega)
    have := Nat.mul_le_mul_right (2 ^ (a + b)) (show t ≤ 2 ^ 10 by omega)
    rw [← Nat.pow_add] at this
    exact Nat.le_trans this (Nat.pow_le_pow_right (by decide) (by omega))
  · show Fr (Q * P) ((t + 1) * 2 ^ (a + b)) (c + p * q)
    rw [Nat.succ_mul]
    exact Fr.add h1 (fr_part (mx hp) (mg hq))
theorem r__law_dotFF (k : Nat) (S : Store) (X Y : D) (n a b : Nat) (x g : Nat → Rat) (hX : itemsD X = some ((List.range n).map fun c => fr (x c))) (hY : itemsD Y = some ((List.range n).map fun c => fr (g c))) (hx : Few a n x) (hg : Few b n g) (hn : n ≤ 1000) (hb : a + b + 20 ≤ 1900) :
    runF Pf Gc (k + 3) "_law_dot" [.d X, .d Y] S = .ok (.d (fr (sm n fun c => x c * g c))) S := by
  obtain ⟨Z, z0, z1, z2, z3, z4, z5⟩ := few_Z hx hg hn hb
  rw [← dot_sm]
  exact r__law_dotZ k S X Y _ _ Z (by rw [hX, List.map_map]; rfl) (by rw [hY, List.map_map]; rfl) z0 z1 z2 z3 (fun t q ht h => z4 t q (by simpa using ht) h) (fun t c ht h p hp q hq => z5 t c (by simpa using ht) h p hp q hq)
end
--@ _law_number
theorem r__law_number (k : Nat) (S : Store) (i : Nat) (b : Int) (h : Urn S i b) (hb : 3 ≤ b) : Ok (runF Pf Gc (k + 2) "_law_number" [.ref i] S) (Dn i S (b - 3) (fun d => ∃ q, d = fr q ∧ Qb 1 3 q)) := by
  rw [run_fn p__law_number rfl]
  simp -implicitDefEqProofs [fn__law_number]
  refine (r__law_draw _ S i _ b h (by omega) (by omega) (by omega)).imp ?_
  rintro r S1 ⟨n, rfl, n0, n1, hu, hs⟩
  by_cases hn : 0 < n
  · simp -implicitDefEqProofs [hn, lenFits, sizeLine]
    refine (r__law_draw _ S1 i _ _ hu (by omega) (by omega) (by omega)).imp ?_
    rintro r S2 ⟨m, rfl, m0, m1, hu2, hs2⟩
    have key : ∃ q, L2.atI [PyData.tuple [.int 0, .int 1], .tuple [.int 1, .int 1], .tuple [.int (-1), .int 1], .tuple [.int 2, .int 1], .tuple [.int 0, .int 1], .tuple [.int (-2), .int 1], .tuple [.int 3, .int 1], .tuple [.int 1, .int 1]] m = some (fr q) ∧ Qb 1 3 q := by
      obtain ⟨d, hd, e⟩ := atI_at (xs := [PyData.tuple [.int 0, .int 1], .tuple [.int 1, .int 1], .tuple [.int (-1), .int 1], .tuple [.int 2, .int 1], .tuple [.int 0, .int 1], .tuple [.int (-2), .int 1], .tuple [.int 3, .int 1], .tuple [.int 1, .int 1]]) (n := m) m0 (by simpa using m1)
      rw [e]
      simp only [List.mem_cons, List.not_mem_nil, or_false] at hd
      rcases hd with e | e | e | e | e | e | e | e <;> subst e
      · exact ⟨mkRat 0 1, rfl, qb_of (by decide) (by decide)⟩
      · exact ⟨mkRat 1 1, rfl, qb_of (by decide) (by decide)⟩
      · exact ⟨mkRat (-1) 1, rfl, qb_of (by decide) (by decide)⟩
      · exact ⟨mkRat 2 1, rfl, qb_of (by decide) (by decide)⟩
      · exact ⟨mkRat 0 1, rfl, qb_of (by decide) (by decide)⟩
      · exact ⟨mkRat (-2) 1, rfl, qb_of (by decide) (by decide)⟩
      · exact ⟨mkRat 3 1, rfl, qb_of (by decide) (by decide)⟩
      · exact ⟨mkRat 1 1, rfl, qb_of (by decide) (by decide)⟩
    obtain ⟨q, hq, hb'⟩ := key
    have hs' := hs.trans hs2
    simp -implicitDefEqProofs [hq, take_same hs'.1]
    exact ⟨_, rfl, ⟨q, rfl, hb'⟩, hu2.weak (by omega), hs'⟩
  · simp -implicitDefEqProofs [hn]
    refine (r__law_draw _ S1 i _ _ hu (by omega) (by omega) (by omega)).imp ?_
    rintro r S2 ⟨m, rfl, m0, m1, hu2, hs2⟩
    simp -implicitDefEqProofs
    refine (r__law_draw _ S2 i _ _ hu2 (by omega) (by omega) (by omega)).imp ?_
    rintro r S3 ⟨l, rfl, l0, l1, hu3, hs3⟩
    have hs' := (hs.trans hs2).trans hs3
    have h2 : Bt 8000 (2 + l) := (Bt.lt (by omega)).mono (by decide)
    simp -implicitDefEqProofs [r__law_frac _ _ _ _ (show 2 + l ≠ 0 by omega) h2, take_same hs'.1]
    refine ⟨_, rfl, ⟨_, rfl, ?_⟩, hu3.weak (by omega), hs'⟩
    have : l = 0 ∨ l = 1 ∨ l = 2 := by omega
    rcases this with rfl | rfl | rfl
    · exact qb_of (d := 2) (by decide) (by omega)
    · exact qb_of (d := 3) (by decide) (by omega)
    · exact qb_of (d := 4) (by decide) (by omega)
--@ _law_row
theorem r__law_row (k : Nat) (S : Store) (i : Nat) (b n : Int) (h : Urn S i b) (hb : 100 ≤ b) (n0 : 0 ≤ n) (n1 : n ≤ 30) :
    Ok (runF Pf Gc (k + 3) "_law_row" [.ref i, .d (.int n)] S) (Dn i S (b - 100) (fun d => ∃ qs, d = rowD qs ∧ (qs.length : Int) = n ∧ ∀ q ∈ qs, Qb 1 3 q)) := by
  have hi := h.lt
  rw [run_fn p__law_row rfl]
  simp -implicitDefEqProofs (disch := omega) [fn__law_row, rng_1, lenFits, sizeLine]
  refine collect (i := i) (n := S.length) (b := b) (c := 3) (fun e => ∃ y, e = [some (.ref i), some (.d (.int n)), some (.ref S.length), y]) (fun _ d => ∃ q, d = fr q ∧ Qb 1 3 q) get_new ⟨_, rfl⟩ h.app (by simp; omega) (by omega) (fun j x e S' acc b' hx he h2 ha hl hP hu hb' => ?_) (fun e S' acc he h2 ha hl hP hu => ?_)
  · obtain ⟨y, rfl⟩ := he
    simp -implicitDefEqProofs [forB_app, ha, -getElem?_pos]
    refine (r__law_number _ S' i _ hu (by omega)).imp ?_
    rintro r1 S1 ⟨d, rfl, hd, hu1, hs1⟩
    have ha1 : S1[S.length]? = some (.lst acc) := (hs1.2 _ (by omega)).trans ha
    have hx' : j < n.toNat := by have := lt_of_get hx; simpa using this
    have hal : acc.length < sizeLine := by unfold sizeLine; omega
    simp -implicitDefEqProofs [ha1, pushC_at hal, -getElem?_pos]
    refine ⟨hs1.two.set _, hu1.set (by omega), d, hd, ?_⟩
    rw [get_set]
    have := lt_of_get ha1; omega
  · obtain ⟨y, rfl⟩ := he
    simp -implicitDefEqProofs (disch := omega) [ha, lenFits, sizeLine, -getElem?_pos, List.getElem?_cons_zero, List.getElem?_cons_succ]
    obtain ⟨qs, rfl, hqs⟩ := frs_of (get_mem hP fun t d h => h)
    simp -implicitDefEqProofs at hl hu
    refine ⟨_, rfl, ⟨qs, rfl, by omega, hqs⟩, ((hu.weak (by omega)).set (by omega)).take (by omega), (h2.ext.set (Nat.le_refl _) _).same⟩
--@ _law_is_whole
theorem r__law_is_whole (k : Nat) (S : Store) (d : D) : runF Pf Gc (k + 1) "_law_is_whole" [.d d] S = .ok (.d (.bool (wholeB d))) S := by
  rw [run_fn p__law_is_whole rfl]
  cases d <;> simp -implicitDefEqProofs [fn__law_is_whole, tyOf, wholeB]
--@ _law_is_frac
theorem r__law_is_frac (k : Nat) (S : Store) (d : D) (h : bd 8000 d) : runF Pf Gc (k + 2) "_law_is_frac" [.d d] S = .ok (.d (.bool (ratioB d))) S := by
  rw [run_fn p__law_is_frac rfl]
  cases d <;> simp -implicitDefEqProofs [fn__law_is_frac, tyOf, ratioB]
  rename_i ds
  match ds, h with
  | [], _ => simp -implicitDefEqProofs [ratioB]
  | [x], _ => simp -implicitDefEqProofs [ratioB]
  | x :: y :: z :: t, _ => simp -implicitDefEqProofs [ratioB]
  | [x, y], h =>
    simp -implicitDefEqProofs [r__law_is_whole]
    cases hx : wholeB x <;> simp -implicitDefEqProofs [r__law_is_whole]
    · cases x <;> simp -implicitDefEqProofs [wholeB] at hx <;> rfl
    cases hy : wholeB y <;> simp -implicitDefEqProofs [r__law_is_whole]
    · cases y <;> simp -implicitDefEqProofs [wholeB] at hy <;> first | rfl | (cases x <;> rfl)
    obtain ⟨a, rfl⟩ := whole_int hx
    obtain ⟨b, rfl⟩ := whole_int hy
    simp -implicitDefEqProofs [ratioB]
    by_cases hb : 0 < b
    · have h2 : Bt 8000 b := bdI.mp (bdT.mp h _ (by simp -implicitDefEqProofs))
      simp -implicitDefEqProofs [hb, r__law_frac _ _ _ _ (show b ≠ 0 by omega) h2, eqD_div hb]
    · simp -implicitDefEqProofs [hb]
--@ _law_is_row
theorem r__law_is_row (k : Nat) (S : Store) (d : D) (many : Int) (hm : many ≤ 16777216) (h : bd 8000 d) : runF Pf Gc (k + 3) "_law_is_row" [.d d, .d (.int many)] S = .ok (.d (.bool (rowB many d))) S := by
  rw [run_fn p__law_is_row rfl]
  cases d <;> simp -implicitDefEqProofs [fn__law_is_row, tyOf, rowB]
  rename_i ds
  by_cases hl : (ds.length : Int) = many
  · simp -implicitDefEqProofs [hl]
    rw [lc_map (xs := ds) (g := fun x => .bool (ratioB x)) (by simp -implicitDefEqProofs) (fun x hx acc => by simp -implicitDefEqProofs [lcStep, wipeE, r__law_is_frac _ _ _ (bdT.mp h x hx)]) (by omega)]
    simp -implicitDefEqProofs
  · have h' : ((ds.length : Int) == many) = false := by rw [beq_eq_false_iff_ne]; exact hl
    simp -implicitDefEqProofs [hl, h']
--@ _law_lies
theorem r__law_lies (k : Nat) (S : Store) (n : Int) (ws : List Wish) (pt : List Rat) (j m jb mb jp mp : Nat) (hw : LotQb j m jb mb ws) (hp : ∀ q ∈ pt, Qb jp mp q) (hl : ws.length ≤ 1000) (hb : m + mp + 31 + 13 * (j + jp) < 1900) (hb2 : mb + 13 * jb < 1900) :
    runF Pf Gc (k + 4) "_law_lies" [.d (lotD n ws), .d (rowD pt)] S = .ok (.d (.bool (liesQ ws pt))) S := by
  rw [run_fn p__law_lies rfl]
  simp -implicitDefEqProofs [fn__law_lies]
  rw [lc_mapT wishD (fun w => .bool (decide (dotQ w.r pt ≤ w.b))) ws (by simp -implicitDefEqProofs) (fun w hw' acc => by
    obtain ⟨h1, h2, h3⟩ := hw w hw'
    have dt := r__law_dot k (S ++ [.lst acc]) (rowD w.r) (rowD pt) w.r pt j jp m mp rfl rfl h1 hp h3 hb
    have dq := dotQ_qb h1 hp
    have up := r__law_up_to (k + 2) (S ++ [.lst acc]) (dotQ w.r pt) w.b (dq.sz (by omega)) (h2.sz hb2)
    simp -implicitDefEqProofs [lcStep, wipeE, dt, up]) (by omega)]
  simp -implicitDefEqProofs [liesQ]
section
open Lp
theorem r__law_liesF (k : Nat) (S : Store) (s d b a : Nat) (ws : List Wish) (y : Nat → Rat) (h : LotF s d b ws) (hy : Few a s y) (hin : InM s ws y) (ha : a + b + 20 ≤ 1890) :
    runF Pf Gc (k + 4) "_law_lies" [.d (lotD s ws), .d (rwD s y)] S = .ok (.d (.bool true)) S := by
  have hn := h.n
  have s12 := h.s12
  rw [run_fn p__law_lies rfl]
  simp -implicitDefEqProofs [fn__law_lies]
  rw [lc_mapT wishD (fun _ => .bool true) ws (by simp -implicitDefEqProofs) (fun w hw acc => by
    have hl := h.len w hw
    have fw : ∀ i, i < s → Fr d (2 ^ b) (wF w i) := fun i hi => by
      unfold wF
      rw [List.getD_eq_getElem?_getD, List.getElem?_eq_getElem (by omega)]
      exact h.A w hw _ (List.getElem_mem _)
    have few := few_of h.d0 h.db fw (Nat.le_refl b)
    have dt := fun S => r__law_dotFF k S (rwD s (wF w)) (rwD s y) s b a (wF w) y it_rw it_rw few hy (by omega) (by omega)
    have dz : Sz (sm s fun c => wF w c * y c) := by
      have e : sm s (fun c => wF w c * y c) = sm s fun c => y c * wF w c := sm_congr fun c _ => Rat.mul_comm _ _
      rw [e]
      exact (Qo.bq (Few.dot hy h.d0 h.db fw (by omega))).sz (by omega)
    have up := fun S => r__law_up_to (k + 2) S (sm s fun c => wF w c * y c) w.b dz (fr_sz (h.B w hw) h.d0 h.db (Nat.le_refl _) (by omega))
    have ok := hin w hw
    rw [wish_rw hl]
    simp -implicitDefEqProofs [lcStep, wipeE, dt, up, ok]) (by omega)]
  have ba : bAll [.list (ws.map fun _ => .bool true)] = some (.bool true) := by
    show (bools (ws.map fun _ => .bool true)).map (fun bs => PyData.bool (bs.all id)) = _
    rw [bools_map (f := fun _ => true)]
    simp
  simp -implicitDefEqProofs [biD, ba]
end
--@ _law_lot
def LotQ (S2 : Store) (i l : Nat) (n m : Int) (x : D) (way c : Int) (p : Fl × Ev) (S3 : Store) : Prop := ∃ (rs : List Rat) (y7 y8 y9 : Option R), p = (.nx, [some (.ref i), some (.d (.int n)), some (.d (.int m)), some (.ref l), some (.d x), some (.d (.int way)), some (.d (rowD rs)), y7, y8, y9]) ∧ (rs.length : Int) = n ∧ (∀ q ∈ rs, Qb 1 3 q) ∧ Same i S2 S3 ∧ Urn S3 i c
theorem r__law_lot (k : Nat) (S : Store) (i : Nat) (b n m : Int) (h : Urn S i b) (hb : 3000 ≤ b) (n0 : 1 ≤ n) (n1 : n ≤ 30) (m0 : 0 ≤ m) (m1 : m ≤ 20) :
    Ok (runF Pf Gc (k + 4) "_law_lot" [.ref i, .d (.int n), .d (.int m)] S) (Dn i S (b - 3000) (fun d => ∃ ws, d = lotD n ws ∧ (ws.length : Int) ≤ m ∧ ∀ w ∈ ws, WishOk n w)) := by
  have hi := h.lt
  rw [run_fn p__law_lot rfl]
  simp -implicitDefEqProofs (disch := omega) [fn__law_lot, lenFits, sizeLine]
  refine (r__law_draw _ _ i _ _ (h.app (c := .lst [])) (by omega) (by omega) (by omega)).imp ?_
  rintro r0 S0 ⟨t, rfl, t0, t1, hu0, hs0⟩
  have hn0 : S0[S.length]? = some (.lst []) := (hs0.2 _ (by omega)).trans get_new
  simp -implicitDefEqProofs (disch := omega) [rng_1]
  refine collect (i := i) (n := S.length) (b := b - 1) (c := 110) (fun e => ∃ y1 y2 y3 y4 y5 y6, e = [some (.ref i), some (.d (.int n)), some (.d (.int m)), some (.ref S.length), y1, y2, y3, y4, y5, y6]) (fun _ d => ∃ w, d = wishD w ∧ WishOk n w) hn0 ⟨_, _, _, _, _, _, rfl⟩ hu0 (by simp; omega) (by omega) (fun j x e S' acc b' hx he h2 ha hl hP hu hb' => ?_) (fun e S' acc he h2 ha hl hP hu => ?_)
  · obtain ⟨y1, y2, y3, y4, y5, y6, rfl⟩ := he
    obtain ⟨ws, rfl, hws⟩ := wishes_of (get_mem hP fun t d h => h)
    have hx' : j < t.toNat := by have := lt_of_get hx; simpa using this
    have hal : (ws.map wishD).length < sizeLine := by unfold sizeLine; omega
    simp -implicitDefEqProofs [forB_app]
    refine (r__law_draw _ S' i _ _ hu (by omega) (by omega) (by omega)).imp ?_
    rintro r1 S1 ⟨way, rfl, w0, w1, hu1, hs1⟩
    simp -implicitDefEqProofs
    refine (r__law_row _ S1 i _ n hu1 (by omega) (by omega) (by omega)).imp ?_
    rintro r2 S2 ⟨d2, rfl, ⟨qs, rfl, hql, hqs⟩, hu2, hs2⟩
    simp -implicitDefEqProofs [lenFits, sizeLine]
    refine Ok.imp (Q := LotQ S2 i S.length n m x way (b' - 103)) ?_ ?_
    · by_cases hw : way < 2
      · simp -implicitDefEqProofs [hw]
        refine (r__law_draw _ S2 i _ _ hu2 (by omega) (by omega) (by omega)).imp ?_
        rintro r3 S3 ⟨spot, rfl, s0, s1, hu3, hs3⟩
        simp -implicitDefEqProofs
        rw [lc_map (S := S3) (xs := (List.range n.toNat).map fun (k : Nat) => PyData.int k) (g := fun x => if numD x = spot then frI (1 - 2 * way) else frI 0) (by simp -implicitDefEqProofs (disch := omega) [rng_1]) (fun x hx acc => by
          obtain ⟨z, hz, rfl⟩ := List.mem_map.mp hx
          by_cases hzs : (z : Int) = spot
          · simp -implicitDefEqProofs (disch := omega) [lcStep, wipeE, numD, hzs, mul_lt200, lenFits, sizeLine]
            rfl
          · have hzb : ((z : Int) == spot) = false := by rw [beq_eq_false_iff_ne]; exact hzs
            simp -implicitDefEqProofs (disch := omega) [lcStep, wipeE, numD, hzs, hzb, mul_lt200, lenFits, sizeLine]
            rfl) (by simp; omega)]
        simp -implicitDefEqProofs
        obtain ⟨rs, hrs, hrl, hrb⟩ : ∃ rs : List Rat, List.map ((fun x => if numD x = spot then frI (1 - 2 * way) else frI 0) ∘ fun (k : Nat) => PyData.int k) (List.range n.toNat) = rs.map fr ∧ (rs.length : Int) = n ∧ ∀ q ∈ rs, Qb 1 3 q := by
          refine ⟨(List.range n.toNat).map fun (k : Nat) => if (k : Int) = spot then ((1 - 2 * way : Int) : Rat) else ((0 : Int) : Rat), ?_, by simp; omega, fun q hq => ?_⟩
          · rw [List.map_map]
            refine List.map_congr_left fun z _ => ?_
            simp only [Function.comp, numD]
            by_cases hzs : (z : Int) = spot <;> simp -implicitDefEqProofs [hzs, frI_eq]
          · obtain ⟨z, _, rfl⟩ := List.mem_map.mp hq
            split
            · exact qb_int (by omega)
            · exact qb_int (by decide)
        rw [hrs]
        exact ⟨rs, _, _, _, rfl, hrl, hrb, hs3, hu3.weak (by omega)⟩
      · by_cases hw2 : way = 2
        · subst hw2
          have ha2 : S2[S.length]? = some (.lst (ws.map wishD)) := ((hs1.trans hs2).2 _ (by omega)).trans ha
          have hq0 := eqD_nilL (shaped_wishes ws)
          cases hw0 : ws.isEmpty with
          | true =>
            rw [List.isEmpty_map, hw0] at hq0
            simp -implicitDefEqProofs [hw, ha2, hq0, lenFits, sizeLine, -getElem?_pos]
            exact ⟨qs, _, _, _, rfl, hql, hqs, Same.refl _ _, hu2.weak (by omega)⟩
          | false =>
            have hwl : 0 < ws.length := by cases ws <;> simp -implicitDefEqProofs at hw0 ⊢
            rw [List.isEmpty_map, hw0] at hq0
            simp -implicitDefEqProofs [hw, ha2, hq0, lenFits, sizeLine, -getElem?_pos]
            refine lc_mapI (g := fun d => match d with | .tuple [.int a, .int c] => .tuple [.int (0 - a), .int c] | _ => .none) ?_
            simp -implicitDefEqProofs
            refine (r__law_of_ref _ S2 i S.length _ _ hu2 ha2 (by omega) (by omega) (by simpa using hwl) (by simp; unfold sizeLine at hal; simp -implicitDefEqProofs at hal; omega)).imp ?_
            rintro r3 S3 ⟨d3, rfl, hd3, hu3, hs3⟩
            obtain ⟨w, hw3, rfl⟩ := List.mem_map.mp hd3
            have hwk := hws w hw3
            simp -implicitDefEqProofs [wishD, rowD]
            refine ⟨by have := hwk.1; omega, fun q hq acc => ?_, ?_⟩
            · simp -implicitDefEqProofs [lcStep, wipeE, fr, lenFits, sizeLine]
            · refine ⟨w.r.map (- ·), y4, y5, y6, ?_, by simpa using hwk.1, fun q hq => ?_, hs3, hu3.weak (by omega)⟩
              · simp -implicitDefEqProofs [rowD, fr, Function.comp_def]
              · obtain ⟨p, hp, rfl⟩ := List.mem_map.mp hq
                exact (hwk.2.1 p hp).neg
        · have hwb : (way == 2) = false := by rw [beq_eq_false_iff_ne]; exact hw2
          simp -implicitDefEqProofs [hw, hw2, hwb]
          exact ⟨qs, _, _, _, rfl, hql, hqs, Same.refl _ _, hu2.weak (by omega)⟩
    · rintro p S3 ⟨rs, y7, y8, y9, rfl, hrl, hrb, hs3, hu3⟩
      have ha3 : S3[S.length]? = some (.lst (ws.map wishD)) := (((hs1.trans hs2).trans hs3).2 _ (by omega)).trans ha
      simp -implicitDefEqProofs [ha3, -getElem?_pos]
      refine (r__law_number _ S3 i _ hu3 (by omega)).imp ?_
      rintro r9 S9 ⟨d9, rfl, ⟨q9, rfl, hq9⟩, hu9, hs9⟩
      have hsA := ((hs1.trans hs2).trans hs3).trans hs9
      have ha9 : S9[S.length]? = some (.lst (ws.map wishD)) := (hsA.2 _ (by omega)).trans ha
      simp -implicitDefEqProofs [ha9, lenFits, sizeLine, -getElem?_pos]
      rw [pushC_at hal]
      simp -implicitDefEqProofs
      refine ⟨hsA.two.set _, (hu9.weak (by omega)).set (by omega), wishD ⟨rs, q9⟩, ⟨_, rfl, hrl, hrb, hq9⟩, ?_⟩
      rw [get_set (by have := lt_of_get ha9; omega)]
      rfl
  · obtain ⟨y1, y2, y3, y4, y5, y6, rfl⟩ := he
    simp -implicitDefEqProofs (disch := omega) [ha, lenFits, sizeLine, -getElem?_pos, List.getElem?_cons_zero, List.getElem?_cons_succ]
    obtain ⟨ws, rfl, hws⟩ := wishes_of (get_mem hP fun t d h => h)
    simp -implicitDefEqProofs at hl hu
    have hT : Two i S.length (S ++ [.lst []]) S' := hs0.two.trans h2
    have hE := hT.ext
    refine ⟨_, rfl, ⟨ws, rfl, by omega, hws⟩, ((hu.weak (by omega)).set (by omega)).take (by omega), (hE.set (Nat.le_refl _) _).same⟩
--@ _law_inside
def WishIn (n : Int) (w : Wish) : Prop := (w.r.length : Int) = n ∧ (∀ q ∈ w.r, Qb 1 3 q) ∧ Qb 2 20 w.b
theorem r__law_inside (k : Nat) (S : Store) (i : Nat) (b n m : Int) (h : Urn S i b) (hb : 4000 ≤ b) (n0 : 1 ≤ n) (n1 : n ≤ 12) (m0 : 0 ≤ m) (m1 : m ≤ 20) :
    Ok (runF Pf Gc (k + 5) "_law_inside" [.ref i, .d (.int n), .d (.int m)] S) (Dn i S (b - 4000) (fun d => ∃ pt ws, d = .tuple [rowD pt, lotD n ws] ∧ (pt.length : Int) = n ∧ (∀ q ∈ pt, Qb 1 3 q) ∧ (ws.length : Int) ≤ m ∧ (∀ w ∈ ws, WishIn n w) ∧ liesQ ws pt = true)) := by
  have hi := h.lt
  rw [run_fn p__law_inside rfl]
  simp -implicitDefEqProofs (disch := omega) [fn__law_inside, lenFits, sizeLine]
  refine (r__law_row _ S i _ n h (by omega) (by omega) (by omega)).imp ?_
  rintro r1 S1 ⟨d1, rfl, ⟨pt, rfl, hpl, hpt⟩, hu1, hs1⟩
  simp -implicitDefEqProofs
  refine (r__law_lot _ S1 i _ n m hu1 (by omega) (by omega) (by omega) (by omega) (by omega)).imp ?_
  rintro r2 S2 ⟨d2, rfl, ⟨ws, rfl, hwl, hws⟩, hu2, hs2⟩
  have hs12 := hs1.trans hs2
  have e12 : S2.length = S.length := hs12.1
  simp -implicitDefEqProofs [setAll]
  refine collect (i := i) (n := S2.length) (b := b - 3100) (c := 1) (fun e => ∃ y6 y7 y8, e = [some (.ref i), some (.d (.int n)), some (.d (.int m)), some (.d (rowD pt)), some (.d (lotD n ws)), some (.ref S2.length), y6, y7, y8])
    (fun _ d => ∃ w, d = wishD w ∧ WishIn n w ∧ dotQ w.r pt ≤ w.b) get_new ⟨_, _, _, rfl⟩ (hu2.weak (by omega)).app (by simp; omega) (by omega) (fun j x e S' acc b' hx he h2 ha hl hP hu hb' => ?_) (fun e S' acc he h2 ha hl hP hu => ?_)
  · obtain ⟨y6, y7, y8, rfl⟩ := he
    rw [List.getElem?_map] at hx
    cases hz : ws[j]? with
    | none => rw [hz] at hx; cases hx
    | some w =>
      rw [hz] at hx; cases hx
      have hj := lt_of_get hz
      obtain ⟨w1, w2, w3⟩ := hws w (List.mem_of_getElem? hz)
      have hal : acc.length < sizeLine := by unfold sizeLine; omega
      have dt := fun S => r__law_dot (k + 1) S (rowD w.r) (rowD pt) w.r pt 1 1 3 3 rfl rfl w2 hpt (by omega) (by omega)
      have dq := dotQ_qb w2 hpt
      have dz := dq.sz (by omega)
      have up := fun S => r__law_up_to (k + 3) S (dotQ w.r pt) w.b dz (w3.sz (by omega))
      simp -implicitDefEqProofs [forB_app, wishD, dt, up]
      by_cases hle : dotQ w.r pt ≤ w.b
      · simp -implicitDefEqProofs [hle, ha, lenFits, sizeLine, -getElem?_pos]
        rw [pushC_at hal]
        simp -implicitDefEqProofs
        refine ⟨(Two.refl).set _, (hu.weak (by omega)).set (by omega), .tuple [rowD w.r, fr w.b], ⟨w, rfl, ⟨w1, w2, w3.mono (by omega) (by omega)⟩, hle⟩, ?_⟩
        rw [get_set (by have := lt_of_get ha; omega)]
      · simp -implicitDefEqProofs [hle, lenFits, sizeLine]
        refine (r__law_of _ S' i _ _ hu (by omega) (by simp) (by simp)).imp ?_
        rintro r3 S3 ⟨d3, rfl, hd3, hu3, hs3⟩
        obtain ⟨g, hg, g0, rfl⟩ : ∃ g : Rat, Qb 1 2 g ∧ 0 ≤ g ∧ d3 = fr g := by
          simp only [List.mem_cons, List.not_mem_nil, or_false] at hd3
          rcases hd3 with rfl | rfl | rfl
          · exact ⟨0, Qb.zero, by decide, rfl⟩
          · exact ⟨mkRat 1 2, qb_of (by decide) (by decide), by decide, rfl⟩
          · exact ⟨2, by have := qb_of (n := 2) (d := 1) (m := 2) (by decide) (by decide); rwa [show mkRat 2 1 = 2 from rfl] at this, by decide, rfl⟩
        have pl := fun S => r__law_plus (k + 2) S (dotQ w.r pt) g dz (hg.sz (by omega))
        have ha3 : S3[S2.length]? = some (.lst acc) := (hs3.2 _ (by have := h2.1; omega)).trans ha
        simp -implicitDefEqProofs [pl, ha3, lenFits, sizeLine, -getElem?_pos]
        rw [pushC_at hal]
        simp -implicitDefEqProofs
        refine ⟨hs3.two.set _, (hu3.weak (by omega)).set (by omega), .tuple [rowD w.r, fr (dotQ w.r pt + g)], ⟨⟨w.r, dotQ w.r pt + g⟩, rfl, ⟨w1, w2, (dq.add hg).mono (by omega) (by omega)⟩, by show dotQ w.r pt ≤ dotQ w.r pt + g; grind⟩, ?_⟩
        rw [get_set (by have := lt_of_get ha3; omega)]
  · obtain ⟨y6, y7, y8, rfl⟩ := he
    simp -implicitDefEqProofs (disch := omega) [ha, lenFits, sizeLine, -getElem?_pos, List.getElem?_cons_zero, List.getElem?_cons_succ]
    obtain ⟨us, rfl, hus⟩ : ∃ us : List Wish, acc = us.map wishD ∧ ∀ u ∈ us, WishIn n u ∧ dotQ u.r pt ≤ u.b := by
      have all := get_mem hP fun t d h => h
      clear hP ha hl hu
      induction acc with
      | nil => exact ⟨[], rfl, fun _ h => by cases h⟩
      | cons a as ih =>
        obtain ⟨us, rfl, hus⟩ := ih fun x hx => all x (List.mem_cons_of_mem _ hx)
        obtain ⟨w, rfl, h1, h2⟩ := all a List.mem_cons_self
        exact ⟨w :: us, rfl, fun u hu => (List.mem_cons.mp hu).elim (fun e => by rw [e]; exact ⟨h1, h2⟩) (hus u)⟩
    simp -implicitDefEqProofs at hl hu
    have hE := h2.ext
    have hsE := (hE.set (Nat.le_refl _) Cell.gone).same
    refine ⟨_, rfl, ⟨pt, us, rfl, hpl, hpt, by omega, fun w hw => (hus w hw).1, ?_⟩, ?_, ?_⟩
    · unfold liesQ
      rw [List.all_eq_true]
      exact fun w hw => decide_eq_true (hus w hw).2
    · have e : S.length = S2.length := hs12.1.symm
      rw [e]
      exact ((hu.weak (by omega)).set (by omega)).take (by omega)
    · have e : S.length = S2.length := hs12.1.symm
      rw [e]
      exact hs12.trans hsE
--@ _law_common
theorem r__law_common (k : Nat) (S : Store) (a b : Int) : runF Pf Gc (k + 1) "_law_common" [.d (.int a), .d (.int b)] S = .ok (.d (.int ((Nat.gcd a.natAbs b.natAbs : Nat) : Int))) S := by
  apply Ok.to
  rw [run_fn p__law_common rfl]
  simp -implicitDefEqProofs [fn__law_common, setAll, abs_nat]
  refine wh_inv (fun m e S' => S' = S ∧ ∃ far near : Nat, e = [some (.d (.int far)), some (.d (.int near))] ∧ Nat.gcd far near = Nat.gcd a.natAbs b.natAbs ∧ m = near) (m := b.natAbs) ⟨rfl, a.natAbs, b.natAbs, rfl, rfl, rfl⟩ (fun m e S' hI => ?_)
  obtain ⟨rfl, far, near, rfl, hg, hm⟩ := hI
  subst m
  simp -implicitDefEqProofs
  by_cases h0 : 0 < near
  · have hne : (near : Int) ≠ 0 := by omega
    simp -implicitDefEqProofs [h0, opB_mod hne, setAll, fmod_emod (show (0 : Int) < near by omega)]
    refine ⟨far % near, Nat.mod_lt _ h0, near, ⟨rfl, by simp⟩, ?_⟩
    rw [← hg, Nat.gcd_comm near, ← Nat.gcd_rec, Nat.gcd_comm]
  · have hz : near = 0 := by omega
    subst hz
    rw [Nat.gcd_zero_right] at hg
    subst hg
    simp -implicitDefEqProofs
--@ _law_whole_wish
theorem r__law_whole_wish (k : Nat) (S : Store) (j m : Nat) (row : List Rat) (bound : Rat) (s : Int) (hr : ∀ q ∈ row, Qb j m q) (hb : Qb j m bound) (hs : s = 0 ∨ s = 1) (hl : row.length ≤ 1000) (hj : m + 13 * j < 1800) :
    runF Pf Gc (k + 2) "_law_whole_wish" [.d (rowD row), .d (fr bound), .d (.int s)] S = .ok (.d (wiD (wholeW row bound s))) S := by
  apply Ok.to
  rw [run_fn p__law_whole_wish rfl]
  have all : ∀ q ∈ row ++ [bound], Qb j m q := fun q hq => (List.mem_append.mp hq).elim (hr q) fun h => by rw [List.mem_singleton.mp h]; exact hb
  have ad : opB .add (rowD row) (.tuple [fr bound]) = some (.tuple ((row ++ [bound]).map fr)) := by
    rw [List.map_append]
    exact opB_addT (xs := row.map fr) (ys := [fr bound]) (by simp; unfold sizeLine; omega)
  have len : (row ++ [bound]).length ≤ 1001 := by simp; omega
  have bden : ∀ q ∈ row ++ [bound], Bt 1900 (q.den : Int) := fun q hq => ((all q hq).sz (by omega)).2
  have bnum : ∀ q ∈ row ++ [bound], Bt 1900 q.num := fun q hq => ((all q hq).sz (by omega)).1
  have h5 : 5040 ^ j ≤ 2 ^ (13 * j) := by rw [Nat.pow_mul]; exact Nat.pow_le_pow_left (by decide) j
  have blc : ∀ t, lcL ((row ++ [bound]).take t) ≤ 2 ^ 1800 := fun t => by
    have := Nat.le_of_dvd (Nat.pos_of_ne_zero (p5040 j)) (lcL_of (M := 5040 ^ j) (l := (row ++ [bound]).take t) fun p hp => (qb_parts (all p (List.mem_of_mem_take hp))).1)
    exact Nat.le_trans this (Nat.le_trans h5 (Nat.pow_le_pow_right (by decide) (by omega)))
  generalize hL : row ++ [bound] = L at *
  simp -implicitDefEqProofs [fn__law_whole_wish, ad]
  refine for_inv (fun t e S' => S' = S ∧ ∃ y4, e = [some (.d (rowD row)), some (.d (fr bound)), some (.d (.int s)), some (.d (.int ((lcL (L.take t) : Nat) : Int))), y4]) ⟨rfl, none, rfl⟩ (fun t x e S' hx hI => ?_) (fun e S' hI => ?_)
  · obtain ⟨rfl, y4, rfl⟩ := hI
    rw [List.getElem?_map] at hx
    cases hz : L[t]? with
    | none => rw [hz] at hx; cases hx
    | some q =>
      rw [hz] at hx; cases hx
      have hq := List.mem_of_getElem? hz
      have e1 : lcL (L.take (t + 1)) = lcL (L.take t) / Nat.gcd (lcL (L.take t)) q.den * q.den := by
        rw [List.take_add_one, hz]
        unfold lcL
        rw [Option.toList_some, List.foldl_append]
        rfl
      rw [e1]
      have bt := blc t
      have p0 := lcL_pos (L.take t)
      generalize lcL (L.take t) = T at *
      have i1 : ixD (fr q) (.int 1) = some (.int q.den) := rfl
      have rc := fun S => r__law_common k S (T : Int) (q.den : Int)
      rw [Int.natAbs_natCast, Int.natAbs_natCast] at rc
      have g0 : 0 < Nat.gcd T q.den := Nat.gcd_pos_of_pos_left _ p0
      have gl : Nat.gcd T q.den ≤ T := Nat.gcd_le_left _ p0
      have f1 : opB .fdiv (.int (T : Int)) (.int ((Nat.gcd T q.den : Nat) : Int)) = some (.int ((T / Nat.gcd T q.den : Nat) : Int)) := by
        rw [fdiv_bt (b := 1801) (by omega) (by unfold Bt; rw [Int.natAbs_natCast]; have : 2 ^ 1800 < 2 ^ 1801 := Nat.pow_lt_pow_right (by decide) (by decide); omega) (by decide), Int.fdiv_eq_ediv_of_nonneg _ (by omega)]
        rfl
      have f2 : opB .mul (.int ((T / Nat.gcd T q.den : Nat) : Int)) (.int (q.den : Int)) = some (.int ((T / Nat.gcd T q.den * q.den : Nat) : Int)) := by
        rw [mul_bt (a := 1801) (b := 1900) (by unfold Bt; rw [Int.natAbs_natCast]; have := Nat.div_le_self T (Nat.gcd T q.den); have : 2 ^ 1800 < 2 ^ 1801 := Nat.pow_lt_pow_right (by decide) (by decide); omega) (bden q hq) (by decide)]
        rw [Int.natCast_mul]
      generalize T / Nat.gcd T q.den = U at *
      generalize U * q.den = V at *
      simp -implicitDefEqProofs [forB_app, i1, rc, f1, f2]
  · obtain ⟨rfl, y4, rfl⟩ := hI
    rw [List.length_map, List.take_length]
    have bt := blc L.length
    rw [List.take_length] at bt
    have lc : lcF (dI (runF Pf Gc (k + 1)) Gc (.bop .add (.v 0) (.tup [.v 1]))) [4] (dA (runF Pf Gc (k + 1)) Gc (.v 4)) (dIfs (runF Pf Gc (k + 1)) Gc []) (dE (runF Pf Gc (k + 1)) Gc (.bop .mul (.ix (.v 4) (.i 0)) (.bop .fdiv (.v 3) (.ix (.v 4) (.i 1)))))
        [some (.d (rowD row)), some (.d (fr bound)), some (.d (.int s)), some (.d (.int ((lcL L : Nat) : Int))), y4] S' = .ok (.d (.list (L.map fun q => .int (q.num * ((lcL L : Int) / (q.den : Int)))))) S' :=
      lc_mapT fr (fun q => .int (q.num * ((lcL L : Int) / (q.den : Int)))) L (by simp -implicitDefEqProofs [ad, lenFits, sizeLine]) (fun q hq acc => by
        have i0 : ixD (fr q) (.int 0) = some (.int q.num) := rfl
        have i1 : ixD (fr q) (.int 1) = some (.int q.den) := rfl
        have f1 : opB .fdiv (.int ((lcL L : Nat) : Int)) (.int (q.den : Int)) = some (.int ((lcL L : Int) / (q.den : Int))) := by
          rw [fdiv_bt (den_ne q) (bden q hq) (by decide), Int.fdiv_eq_ediv_of_nonneg _ (by omega)]
        have f2 := mul_bt (i := q.num) (j := (lcL L : Int) / (q.den : Int)) (a := 1900) (b := 1801) (bnum q hq) (by
          unfold Bt
          have : ((lcL L : Int) / (q.den : Int)).natAbs ≤ lcL L := by rw [← Int.natCast_ediv, Int.natAbs_natCast]; exact Nat.div_le_self _ _
          have : 2 ^ 1800 < 2 ^ 1801 := Nat.pow_lt_pow_right (by decide) (by decide)
          omega) (by decide)
        simp -implicitDefEqProofs [lcStep, wipeE, i0, i1, f1, f2]) (by omega)
    have ad2 := opB_addT (xs := L.map fun q => PyData.int (q.num * ((lcL L : Int) / (q.den : Int)))) (ys := [.int s]) (by simp; unfold sizeLine; omega)
    simp -implicitDefEqProofs [lc, biD, ad2, lenFits, sizeLine]
    unfold wiD wholeW
    rw [hL]
    simp -implicitDefEqProofs [Function.comp_def]
--@ _law_lowered
theorem r__law_lowered (k : Nat) (S : Store) (n b : Nat) (w : Wi) (hl : w.length = n + 2) (hn : n ≤ 1000) (hB : BtW b w) (hb : b < 9000) : runF Pf Gc (k + 2) "_law_lowered" [.d (wiD w)] S = .ok (.d (wiD (lowW n w))) S := by
  apply Ok.to
  rw [run_fn p__law_lowered rfl]
  have c1 : slD (wiD w) none (some (-1)) = some (.tuple ((w.take (n + 1)).map PyData.int)) := wi_front hl
  have c2 : slD (wiD w) (some (-1)) none = some (.tuple ((w.drop (n + 1)).map PyData.int)) := wi_back hl
  obtain ⟨T, hT⟩ : ∃ T, T = w.take (n + 1) := ⟨_, rfl⟩
  obtain ⟨B, hBk⟩ : ∃ B, B = w.drop (n + 1) := ⟨_, rfl⟩
  rw [← hT] at c1
  rw [← hBk] at c2
  simp -implicitDefEqProofs [fn__law_lowered, c1]
  refine for_inv (fun j e S' => S' = S ∧ ∃ y2, e = [some (.d (wiD w)), some (.d (.int ((gcL (T.take j) : Nat) : Int))), y2]) ⟨rfl, none, rfl⟩ (fun j x e S' hx hI => ?_) (fun e S' hI => ?_)
  · obtain ⟨rfl, y2, rfl⟩ := hI
    rw [List.getElem?_map] at hx
    cases hz : T[j]? with
    | none => rw [hz] at hx; cases hx
    | some z =>
      rw [hz] at hx; cases hx
      have e1 : gcL (T.take (j + 1)) = Nat.gcd (gcL (T.take j)) z.natAbs := by
        rw [List.take_add_one, hz]
        unfold gcL
        rw [Option.toList_some, List.foldl_append]
        rfl
      rw [e1]
      generalize gcL (T.take j) = g
      have rc := fun S a b => r__law_common k S a b
      by_cases h1 : (g : Int) = 0
      · have h1' : g = 0 := by omega
        subst h1'
        by_cases h2 : z = 0
        · subst h2
          simp -implicitDefEqProofs [forB_app]
        · have h2b : (z == 0) = false := by rw [beq_eq_false_iff_ne]; exact h2
          simp -implicitDefEqProofs [forB_app, h2b, rc, h2]
      · have h1b : ((g : Int) == 0) = false := by rw [beq_eq_false_iff_ne]; exact h1
        have h1' : g ≠ 0 := by omega
        simp -implicitDefEqProofs [forB_app, h1b, rc, h1, h1']
  · obtain ⟨rfl, y2, rfl⟩ := hI
    rw [List.length_map, List.take_length]
    by_cases hg : gcL T < 2
    · have e : lowW n w = w := by unfold lowW; rw [← hT, if_pos hg]
      have hg' : ((gcL T : Nat) : Int) < 2 := by omega
      simp -implicitDefEqProofs [e, hg, hg']
    · have hg' : ¬ ((gcL T : Nat) : Int) < 2 := by omega
      have e : lowW n w = T.map (· / (gcL T : Int)) ++ B := by unfold lowW; rw [← hT, ← hBk, if_neg hg]
      have gB := gcL_bt (n := n) hB (by rw [← hT]; exact hg)
      rw [← hT] at gB
      have l1 : T.length ≤ 1001 := by rw [hT, List.length_take]; omega
      have l2 : B.length ≤ 1 := by rw [hBk, List.length_drop]; omega
      rw [e]
      generalize gcL T = g at *
      have g0 : (g : Int) ≠ 0 := by omega
      have lc : ∀ y, lcF (dI (runF Pf Gc (k + 1)) Gc (.sl (.v 0) .nob (.neg (.i 1)))) [2] (dA (runF Pf Gc (k + 1)) Gc (.v 2)) (dIfs (runF Pf Gc (k + 1)) Gc []) (dE (runF Pf Gc (k + 1)) Gc (.bop .fdiv (.v 2) (.v 1))) [some (.d (wiD w)), some (.d (.int (g : Int))), y] S' = .ok (.d (.list (T.map fun e => .int (e / (g : Int))))) S' := fun y =>
        lc_mapT PyData.int (fun e => .int (e / (g : Int))) T (by simp -implicitDefEqProofs [c1]) (fun e he acc => by
          have fd : opB .fdiv (.int e) (.int (g : Int)) = some (.int (e / (g : Int))) := by rw [fdiv_bt g0 gB (by omega), Int.fdiv_eq_ediv_of_nonneg _ (by omega)]
          simp -implicitDefEqProofs [lcStep, wipeE, fd]) (by omega)
      have ad := opB_addT (xs := T.map fun e => PyData.int (e / (g : Int))) (ys := B.map PyData.int) (by simp; unfold sizeLine; omega)
      simp -implicitDefEqProofs [hg', hg, lc, biD, c2, ad]
      unfold wiD
      simp -implicitDefEqProofs [Function.comp_def]
--@ _law_joined_wish
theorem zipW_zip (f : Int → Int → Int) : ∀ a b : List Int, List.zipWith f a b = (a.zip b).map fun p => f p.1 p.2
  | [], _ => by simp
  | _ :: _, [] => by simp
  | x :: a, y :: b => by simp [zipW_zip f a b]
theorem r__law_joined_wish (k : Nat) (S : Store) (n b s : Nat) (one two : Wi) (h1 : WzOk n one) (h2 : WzOk n two) (hs : s ≤ n) (hn : n ≤ 1000) (b1 : BtW b one) (b2 : BtW b two) (hb0 : 0 < b) (hb : 2 * b + 1 < 9000) :
    runF Pf Gc (k + 3) "_law_joined_wish" [.d (wiD one), .d (wiD two), .d (.int s)] S = .ok (.d (wiD (joinW n s one two))) S := by
  have l1 := h1.len
  have l2 := h2.len
  rw [run_fn p__law_joined_wish rfl]
  have i1 : ixD (wiD one) (.int s) = some (.int (one.getD s 0)) := wi_at (by omega)
  have i2 : ixD (wiD two) (.int s) = some (.int (two.getD s 0)) := wi_at (by omega)
  have c1 : slD (wiD one) none (some (-1)) = some (.tuple ((one.take (n + 1)).map PyData.int)) := wi_front l1
  have c2 : slD (wiD two) none (some (-1)) = some (.tuple ((two.take (n + 1)).map PyData.int)) := wi_front l2
  have z1 : ixD (wiD one) (.int (-1)) = some (.int (one.getD (n + 1) 0)) := wi_last l1
  have z2 : ixD (wiD two) (.int (-1)) = some (.int (two.getD (n + 1) 0)) := wi_last l2
  have lo := r__law_lowered k S n (2 * b + 1) (rawW n s one two) (raw_len l1 l2) hn (raw_bt hb0 b1 b2 h1 h2) hb
  have er : PyData.tuple ((((one.take (n + 1)).zip (two.take (n + 1))).map fun p => PyData.int ((0 - two.getD s 0) * p.1 + one.getD s 0 * p.2)) ++ [PyData.int (if two.getD (n + 1) 0 > one.getD (n + 1) 0 then two.getD (n + 1) 0 else one.getD (n + 1) 0)]) = wiD (rawW n s one two) := by
    have em : (if two.getD (n + 1) 0 > one.getD (n + 1) 0 then two.getD (n + 1) 0 else one.getD (n + 1) 0) = max (one.getD (n + 1) 0) (two.getD (n + 1) 0) := by omega
    rw [em]
    unfold wiD rawW
    rw [List.map_append, zipW_zip, List.map_map]
    rfl
  have u1 := b1.at_ s
  have u2 : Bt b (- two.getD s 0) := (b2.at_ s).neg
  simp only [Int.zero_sub] at er
  generalize one.getD s 0 = u at *
  generalize two.getD s 0 = v at *
  generalize one.getD (n + 1) 0 = p at *
  generalize two.getD (n + 1) 0 = q at *
  obtain ⟨T, hT⟩ : ∃ T, T = one.take (n + 1) := ⟨_, rfl⟩
  obtain ⟨V, hV⟩ : ∃ V, V = two.take (n + 1) := ⟨_, rfl⟩
  rw [← hT] at c1
  rw [← hV] at c2
  rw [← hT, ← hV] at er
  have tl : T.length ≤ 1001 := by rw [hT, List.length_take]; omega
  have zp : zipD [.tuple (T.map PyData.int), .tuple (V.map PyData.int)] = some ((T.zip V).map fun t => .tuple [.int t.1, .int t.2]) := by
    simp only [zipD, itemsD, Option.bind_some, Option.map_some]
    rw [zip2_map]
  have lc : ∀ y3 y6 y7, lcF (dI (runF Pf Gc (k + 2)) Gc (.zip [.sl (.v 0) .nob (.neg (.i 1)), .sl (.v 1) .nob (.neg (.i 1))])) [6, 7] (dA (runF Pf Gc (k + 2)) Gc (.t [.v 6, .v 7])) (dIfs (runF Pf Gc (k + 2)) Gc []) (dE (runF Pf Gc (k + 2)) Gc (.bop .add (.bop .mul (.v 5) (.v 6)) (.bop .mul (.v 4) (.v 7))))
      [some (.d (wiD one)), some (.d (wiD two)), some (.d (.int s)), y3, some (.d (.int (u))), some (.d (.int (-v))), y6, y7] S = .ok (.d (.list ((T.zip V).map fun t => .int ((-v) * t.1 + u * t.2)))) S := fun y3 y6 y7 =>
    lc_mapT (fun t : Int × Int => .tuple [.int t.1, .int t.2]) (fun t => .int ((-v) * t.1 + u * t.2)) (T.zip V) (by simp -implicitDefEqProofs [c1, c2, zp]) (fun t hp acc => by
      have hp1 := b1 _ (List.mem_of_mem_take (hT ▸ (List.of_mem_zip hp).1))
      have hp2 := b2 _ (List.mem_of_mem_take (hV ▸ (List.of_mem_zip hp).2))
      have m1 := mul_bt u2 hp1 (by omega)
      have m2 := mul_bt u1 hp2 (by omega)
      simp -implicitDefEqProofs [lcStep, wipeE, m1, m2]) (by simp; omega)
  have ad := opB_addT (xs := (T.zip V).map fun t => PyData.int ((-v) * t.1 + u * t.2)) (ys := [PyData.int (if q > p then q else p)]) (by simp; unfold sizeLine; omega)
  rw [er] at ad
  simp -implicitDefEqProofs [fn__law_joined_wish, i1, i2, lenFits, sizeLine, lc, z1, z2, biD, ad, lo]
  rfl
--@ _law_is_void
theorem r__law_is_void (k : Nat) (S : Store) (n b : Nat) (ws : List Wi) (hn : n ≤ 30) (h : ∀ w ∈ ws, WzOk n w) (hB : ∀ w ∈ ws, BtW b w) (hb0 : 0 < b) (hb : bsW b n < 8000) (hl : ws.length ≤ 1000) (few : FewW n ws) :
    runF Pf Gc (k + 4) "_law_is_void" [.d (.list (ws.map wiD)), .d (.int n)] S = .ok (.d (.bool (voidW n ws))) S := by
  apply Ok.to
  rw [run_fn p__law_is_void rfl]
  have mono : ∀ j, j ≤ n → bsW b j ≤ bsW b n := bsW_mono
  have lc0 : ∀ y2 y3 y4 y5 y6 y7 y8, lcF (dI (runF Pf Gc (k + 3)) Gc (.v 0)) [7] (dA (runF Pf Gc (k + 3)) Gc (.v 7)) (dIfs (runF Pf Gc (k + 3)) Gc []) (dE (runF Pf Gc (k + 3)) Gc (.call "_law_lowered" [.v 7]))
      [some (.d (.list (ws.map wiD))), some (.d (.int n)), y2, y3, y4, y5, y6, y7, y8] S = .ok (.d (.list (ws.map fun w => wiD (lowW n w)))) S := fun y2 y3 y4 y5 y6 y7 y8 =>
    lc_mapT wiD (fun w => wiD (lowW n w)) ws (by simp -implicitDefEqProofs) (fun w hw acc => by
      have lo := r__law_lowered (k + 1) (S ++ [.lst acc]) n b w (h w hw).len (by omega) (hB w hw) (by have : b ≤ bsW b n := mono 0 (Nat.zero_le _); omega)
      simp -implicitDefEqProofs [-List.getD_eq_getElem?_getD, lcStep, wipeE, lo]) (by omega)
  have s0 : ssD [.list (ws.map fun w => wiD (lowW n w))] = some (.list ((fmSeq n ws 0).map wiD)) := by
    have := ss_wi (n := n) (ws.map (lowW n)) (fun w hw => by obtain ⟨v, hv, rfl⟩ := List.mem_map.mp hw; rw [low_len, (h v hv).len]) (few 0 (Nat.zero_le _))
    rw [List.map_map] at this
    exact this
  simp -implicitDefEqProofs [-List.getD_eq_getElem?_getD, fn__law_is_void, lc0, s0, rng_len (show n ≤ 1000000 by omega)]
  refine for_inv (fun j e S' => S' = S ∧ j ≤ n ∧ ∃ y3 y4 y5 y6 y7 y8, e = [some (.d (.list (ws.map wiD))), some (.d (.int n)), some (.d (.list ((fmSeq n ws j).map wiD))), y3, y4, y5, y6, y7, y8]) ⟨rfl, Nat.zero_le _, none, none, none, none, none, none, rfl⟩ (fun j x e S' hx hI => ?_) (fun e S' hI => ?_)
  · obtain ⟨rfl, _, y3, y4, y5, y6, y7, y8, rfl⟩ := hI
    obtain ⟨hj, rfl⟩ := range_get hx
    have ok := seq_ok h j
    have bt := seq_bt hb0 h hB j
    have fj := few j (by omega)
    have bj : 2 * bsW b j + 1 ≤ bsW b n := mono (j + 1) (by omega)
    generalize hL : fmSeq n ws j = left at *
    have ixw : ∀ w ∈ left, ixD (wiD w) (.int j) = some (.int (w.getD j 0)) := fun w hw => wi_at (by have := (ok w hw).len; omega)
    have lcz : ∀ y4 y5 y6 y7 y8, lcF (dI (runF Pf Gc (k + 3)) Gc (.v 2)) [7] (dA (runF Pf Gc (k + 3)) Gc (.v 7)) (dIfs (runF Pf Gc (k + 3)) Gc [.cmp .eq (.ix (.v 7) (.v 3)) (.i 0)]) (dE (runF Pf Gc (k + 3)) Gc (.v 7))
        [some (.d (.list (ws.map wiD))), some (.d (.int n)), some (.d (.list (left.map wiD))), some (.d (.int j)), y4, y5, y6, y7, y8] S' = .ok (.d (.list ((zerW j left).map wiD))) S' := fun y4 y5 y6 y7 y8 => by
      rw [lc_runT wiD (fun w => if w.getD j 0 = 0 then some (wiD w) else none) left (by simp -implicitDefEqProofs) (fun w hw acc => by
        have i1 := ixw w hw
        by_cases c : w.getD j 0 = 0
        · simp -implicitDefEqProofs [-List.getD_eq_getElem?_getD, lcStep, wipeE, i1, c]
        · have cb : (w.getD j 0 == 0) = false := by rw [beq_eq_false_iff_ne]; exact c
          simp -implicitDefEqProofs [-List.getD_eq_getElem?_getD, lcStep, wipeE, i1, c, cb]) (by omega)]
      rw [filter_fm]; rfl
    have lcd : ∀ y4 y5 y6 y7 y8, lcF (dI (runF Pf Gc (k + 3)) Gc (.v 2)) [7] (dA (runF Pf Gc (k + 3)) Gc (.v 7)) (dIfs (runF Pf Gc (k + 3)) Gc [.cmp .lt (.ix (.v 7) (.v 3)) (.i 0)]) (dE (runF Pf Gc (k + 3)) Gc (.v 7))
        [some (.d (.list (ws.map wiD))), some (.d (.int n)), some (.d (.list (left.map wiD))), some (.d (.int j)), y4, y5, y6, y7, y8] S' = .ok (.d (.list ((dowW j left).map wiD))) S' := fun y4 y5 y6 y7 y8 => by
      rw [lc_runT wiD (fun w => if w.getD j 0 < 0 then some (wiD w) else none) left (by simp -implicitDefEqProofs) (fun w hw acc => by
        have i1 := ixw w hw
        by_cases c : w.getD j 0 < 0
        · simp -implicitDefEqProofs [-List.getD_eq_getElem?_getD, lcStep, wipeE, i1, c]
        · simp -implicitDefEqProofs [-List.getD_eq_getElem?_getD, lcStep, wipeE, i1, c]) (by omega)]
      rw [filter_fm]; rfl
    have lcu : ∀ y4 y5 y6 y7 y8, lcF (dI (runF Pf Gc (k + 3)) Gc (.v 2)) [7] (dA (runF Pf Gc (k + 3)) Gc (.v 7)) (dIfs (runF Pf Gc (k + 3)) Gc [.cmp .gt (.ix (.v 7) (.v 3)) (.i 0)]) (dE (runF Pf Gc (k + 3)) Gc (.v 7))
        [some (.d (.list (ws.map wiD))), some (.d (.int n)), some (.d (.list (left.map wiD))), some (.d (.int j)), y4, y5, y6, y7, y8] S' = .ok (.d (.list ((upsW j left).map wiD))) S' := fun y4 y5 y6 y7 y8 => by
      rw [lc_runT wiD (fun w => if 0 < w.getD j 0 then some (wiD w) else none) left (by simp -implicitDefEqProofs) (fun w hw acc => by
        have i1 := ixw w hw
        by_cases c : 0 < w.getD j 0
        · simp -implicitDefEqProofs [-List.getD_eq_getElem?_getD, lcStep, wipeE, i1, c]
        · simp -implicitDefEqProofs [-List.getD_eq_getElem?_getD, lcStep, wipeE, i1, c]) (by omega)]
      rw [filter_fm]; rfl
    have pl := parts_len j left
    obtain ⟨e2, S2, q1, ⟨rfl, z6, z7, z8, rfl⟩⟩ := for_accS (f := forB (runF Pf Gc (k + 3)) Gc (.v 6) [.asg (.v 4) (.bop .add (.v 4) (.lc (.call "_law_joined_wish" [.v 6, .v 8, .v 3]) (.v 8) (.v 5) [] [8]))]) wiD (fun one => (dowW j left).map fun two => wiD (joinW n j one two))
      (fun acc e S2 => S2 = S' ∧ ∃ y6 y7 y8, e = [some (.d (.list (ws.map wiD))), some (.d (.int n)), some (.d (.list (left.map wiD))), some (.d (.int j)), some (.d (.list acc)), some (.d (.list ((dowW j left).map wiD))), y6, y7, y8]) 62 4000 (upsW j left) ((zerW j left).map wiD)
      [some (.d (.list (ws.map wiD))), some (.d (.int n)), some (.d (.list (left.map wiD))), some (.d (.int j)), some (.d (.list ((zerW j left).map wiD))), some (.d (.list ((dowW j left).map wiD))), y6, y7, y8] S' ⟨rfl, y6, y7, y8, rfl⟩ (fun x hx => by rw [List.length_map]; omega) (by rw [List.length_map]; omega) (fun one ho acc e S2 hE hN => by
        obtain ⟨rfl, y6, y7, y8, rfl⟩ := hE
        have mo := (mem_ups.mp ho).1
        have lcj : ∀ y7 y8, lcF (dI (runF Pf Gc (k + 3)) Gc (.v 5)) [8] (dA (runF Pf Gc (k + 3)) Gc (.v 8)) (dIfs (runF Pf Gc (k + 3)) Gc []) (dE (runF Pf Gc (k + 3)) Gc (.call "_law_joined_wish" [.v 6, .v 8, .v 3]))
            [some (.d (.list (ws.map wiD))), some (.d (.int n)), some (.d (.list (left.map wiD))), some (.d (.int j)), some (.d (.list acc)), some (.d (.list ((dowW j left).map wiD))), some (.d (wiD one)), y7, y8] S2 = .ok (.d (.list ((dowW j left).map fun two => wiD (joinW n j one two)))) S2 := fun y7 y8 =>
          lc_mapT wiD (fun two => wiD (joinW n j one two)) (dowW j left) (by simp -implicitDefEqProofs) (fun two ht acc2 => by
            have mt := (mem_dow.mp ht).1
            have jw := r__law_joined_wish k (S2 ++ [.lst acc2]) n (bsW b j) j one two (ok one mo) (ok two mt) (by omega) (by omega) (bt one mo) (bt two mt) (bsW_pos hb0 j) (by omega)
            simp -implicitDefEqProofs [-List.getD_eq_getElem?_getD, lcStep, wipeE, jw]) (by omega)
        have ad := opB_addL (xs := acc) (ys := (dowW j left).map fun two => wiD (joinW n j one two)) (by rw [List.length_map]; unfold sizeLine; omega)
        refine ⟨_, S2, ?_, rfl, some (.d (wiD one)), y7, y8, rfl⟩
        simp -implicitDefEqProofs [-List.getD_eq_getElem?_getD, forB_app, lcj, ad])
    have ef : (zerW j left).map wiD ++ (upsW j left).flatMap (fun one => (dowW j left).map fun two => wiD (joinW n j one two)) = (fmPre n j left).map wiD := by
      unfold fmPre
      rw [List.map_append, List.map_flatMap]
      congr 2
      funext one
      rw [List.map_map]; rfl
    rw [ef] at q1
    have es : fmSeq n ws (j + 1) = ssetL (fmPre n j left) := by rw [← hL]; rfl
    have s1 : ssD [.list ((fmPre n j left).map wiD)] = some (.list ((fmSeq n ws (j + 1)).map wiD)) := by
      rw [es]
      exact ss_wi (n := n) _ (fun w hw => (pre_ok ok w hw).len) (by rw [← es]; exact few (j + 1) (by omega))
    simp -implicitDefEqProofs [-List.getD_eq_getElem?_getD, forB_app, lcz, lcd, lcu, q1, s1]
    omega
  · obtain ⟨rfl, _, y3, y4, y5, y6, y7, y8, rfl⟩ := hI
    rw [List.length_map, List.length_range] at *
    have ok := seq_ok h n
    have fn := few n (Nat.le_refl _)
    have lce : lcF (dI (runF Pf Gc (k + 3)) Gc (.v 2)) [7] (dA (runF Pf Gc (k + 3)) Gc (.v 7)) (dIfs (runF Pf Gc (k + 3)) Gc []) (dE (runF Pf Gc (k + 3)) Gc (.cmp .lt (.ix (.v 7) (.v 1)) (.ix (.v 7) (.bop .add (.v 1) (.i 1)))))
        [some (.d (.list (ws.map wiD))), some (.d (.int n)), some (.d (.list ((fmSeq n ws n).map wiD))), y3, y4, y5, y6, y7, y8] S' = .ok (.d (.list ((fmSeq n ws n).map fun w => .bool (decide (w.getD n 0 < w.getD (n + 1) 0))))) S' :=
      lc_mapT wiD (fun w => .bool (decide (w.getD n 0 < w.getD (n + 1) 0))) (fmSeq n ws n) (by simp -implicitDefEqProofs) (fun w hw acc => by
        have l := (ok w hw).len
        have i1 : ixD (wiD w) (.int n) = some (.int (w.getD n 0)) := wi_at (by omega)
        have i2 : ixD (wiD w) (.int ((n : Int) + 1)) = some (.int (w.getD (n + 1) 0)) := wi_at (i := n + 1) (by omega)
        simp -implicitDefEqProofs [-List.getD_eq_getElem?_getD, lcStep, wipeE, i1, i2]) (by omega)
    have an : bAny [.list ((fmSeq n ws n).map fun w => .bool (decide (w.getD n 0 < w.getD (n + 1) 0)))] = some (.bool (voidW n ws)) := by
      have := bools_map (fmSeq n ws n) fun w : Wi => decide (w.getD n 0 < w.getD (n + 1) 0)
      unfold bAny
      dsimp only
      rw [this]
      simp [-List.getD_eq_getElem?_getD, voidW, List.any_map, Function.comp_def]
    simp -implicitDefEqProofs [-List.getD_eq_getElem?_getD, lce, biD, an]
--@ _law_lot_wishes
theorem r__law_lot_wishes (k : Nat) (S : Store) (j m : Nat) (n : Int) (ws : List Wish) (h : ∀ w ∈ ws, (∀ q ∈ w.r, Qb j m q) ∧ Qb j m w.b ∧ w.r.length ≤ 1000) (hl : ws.length ≤ 1000) (hj : m + 13 * j < 1800) :
    runF Pf Gc (k + 3) "_law_lot_wishes" [.d (lotD n ws)] S = .ok (.d (.list ((ws.map fun w => wholeW w.r w.b 0).map wiD))) S := by
  rw [run_fn p__law_lot_wishes rfl]
  simp -implicitDefEqProofs [fn__law_lot_wishes]
  rw [lc_mapT wishD (fun w => wiD (wholeW w.r w.b 0)) ws (by simp -implicitDefEqProofs) (fun w hw acc => by
    obtain ⟨h1, h2, h3⟩ := h w hw
    have ww := fun S => r__law_whole_wish k S j m w.r w.b 0 h1 h2 (.inl rfl) h3 hj
    simp -implicitDefEqProofs [lcStep, wipeE, ww]) (by omega)]
  simp -implicitDefEqProofs [Function.comp_def]
--@ _law_right
section
open Lp
theorem same_none (k : Nat) (S : Store) : runF Pf Gc (k + 1) "_law_same" [.d .none, .d .none] S = .ok (.d (.bool true)) S := by
  rw [run_fn p__law_same rfl]
  have c1 : cmpD .isx .none .none = some true := rfl
  simp -implicitDefEqProofs [fn__law_same, tyOf, c1]
def Lt6 (s : Nat) (ws : List Wish) : Prop := ws.length ≤ 6 ∧ ∀ w ∈ ws, WishIn s w
theorem Lt6.F {s : Nat} {ws : List Wish} (h : Lt6 s ws) (s1 : 1 ≤ s) (s3 : s ≤ 3) : LotF s (5040 ^ 2) 46 ws := by
  have ab : (s + 1) * (46 + 4) ≤ 200 := Nat.mul_le_mul_right 50 (show s + 1 ≤ 4 by omega)
  exact ⟨p5040 2, by decide, fun w hw => by have := (h.2 w hw).1; omega, fun w hw q hq => Qb.fr (((h.2 w hw).2.1 q hq).mono (by decide : 1 ≤ 2) (by decide : 3 ≤ 20)), fun w hw => Qb.fr (h.2 w hw).2.2, s1, by omega, by have := h.1; omega, by omega⟩
theorem Lt6.qb {s : Nat} {ws : List Wish} (h : Lt6 s ws) (s3 : s ≤ 3) : LotQb 1 3 2 20 ws := fun w hw => ⟨(h.2 w hw).2.1, (h.2 w hw).2.2, by have := (h.2 w hw).1; omega⟩
theorem Lt6.qb2 {s : Nat} {ws : List Wish} (h : Lt6 s ws) (s3 : s ≤ 3) : ∀ w ∈ ws, (∀ q ∈ w.r, Qb 2 20 q) ∧ Qb 2 20 w.b ∧ w.r.length ≤ 1000 := fun w hw => ⟨fun q hq => ((h.2 w hw).2.1 q hq).mono (by decide) (by decide), (h.2 w hw).2.2, by have := (h.2 w hw).1; omega⟩
theorem Lt6.ok {n : Int} {s : Nat} {ws : List Wish} (hn : n = s) (h : ∀ w ∈ ws, WishOk n w) (hl : (ws.length : Int) ≤ 6) : Lt6 s ws := ⟨by omega, fun w hw => by
  obtain ⟨h1, h2, h3⟩ := h w hw
  exact ⟨by rw [h1, hn], h2, h3.mono (by decide) (by decide)⟩⟩
/-- the law's own taking out: whether the lot is void -/
theorem r_void (k : Nat) (S : Store) (s : Nat) (ws : List Wish) (h : Lt6 s ws) (s3 : s ≤ 3) :
    runF Pf Gc (k + 4) "_law_is_void" [.d (.list ((ws.map fun w => wholeW w.r w.b 0).map wiD)), .d (.int s)] S = .ok (.d (.bool (voidW s (ws.map fun w => wholeW w.r w.b 0)))) S := by
  have ok : ∀ w ∈ ws.map (fun w => wholeW w.r w.b 0), WzOk s w := fun w hw => by
    obtain ⟨v, hv, rfl⟩ := List.mem_map.mp hw
    have := whole_ok (row := v.r) (bound := v.b) (s := 0) (.inl rfl)
    rwa [show v.r.length = s by have := (h.2 v hv).1; omega] at this
  refine r__law_is_void k S s 47 _ (by omega) ok (fun w hw => ?_) (by decide) ?_ (by rw [List.length_map]; have := h.1; omega) (few7 ok (by rw [List.length_map]; have := h.1; omega) s3)
  · obtain ⟨v, hv, rfl⟩ := List.mem_map.mp hw
    have q := h.qb2 s3 v hv
    exact whole_bt (j := 2) (m := 20) q.1 q.2.1 (.inl rfl)
  · have := bsW_mono (b := 47) (n := 3) s s3
    exact Nat.lt_of_le_of_lt this (by decide)
theorem r__law_right (k : Nat) (S : Store) (i : Nat) (b : Int) (h : Urn S i b) (hb : 1000000 ≤ b) : Ok (runF Pf Gc (k + 40) "_law_right" [.ref i] S) (fun r S' => r = .d (.bool true) ∧ Same i S S') := by
  rw [run_fn p__law_right rfl]
  simp -implicitDefEqProofs [fn__law_right]
  refine (r__law_draw _ S i _ _ h (by omega) (by omega) (by omega)).imp ?_
  rintro r1 S1 ⟨s', rfl, s0, s1, hu1, hs1⟩
  obtain ⟨s, hs⟩ : ∃ s : Nat, 1 + s' = s := ⟨(1 + s').toNat, by omega⟩
  have n0 : 1 ≤ s := by omega
  have n1 : s ≤ 3 := by omega
  simp -implicitDefEqProofs [hs]
  refine (r__law_inside _ S1 i _ s 6 hu1 (by omega) (by omega) (by omega) (by omega) (by omega)).imp ?_
  rintro r2 S2 ⟨d2, rfl, ⟨pt, ws1, rfl, hpl, hpt, hw1l, hw1, hin⟩, hu2, hs2⟩
  simp -implicitDefEqProofs
  refine (r__law_lot _ S2 i _ s 6 hu2 (by omega) (by omega) (by omega) (by omega) (by omega)).imp ?_
  rintro r3 S3 ⟨d3, rfl, ⟨ws2, rfl, hw2l, hw2⟩, hu3, hs3⟩
  have l1 : Lt6 s ws1 := ⟨by omega, hw1⟩
  have l2 : Lt6 s ws2 := .ok rfl hw2 hw2l
  have hs03 := (hs1.trans hs2).trans hs3
  simp -implicitDefEqProofs [lenFits, sizeLine]
  refine for_inv (fun j e S' => Same i S S' ∧ Urn S' i (b - 20000 - 1000 * j) ∧ ∃ y2 y5 y6 y7, e = [some (.ref i), some (.d (.int s)), y2, some (.d (rowD pt)), some (.d (lotD s ws1)), y5, y6, y7]) ⟨hs03, hu3.weak (by omega), _, _, _, _, rfl⟩ (fun j x e S' hx hI => ?_) (fun e S' hI => ?_)
  · obtain ⟨hs0, hu, y2, y5, y6, y7, rfl⟩ := hI
    have hj : j < 2 := by have := lt_of_get hx; simpa using this
    obtain ⟨ws, rfl, hl⟩ : ∃ ws, x = lotD s ws ∧ Lt6 s ws := by
      have := List.mem_of_getElem? hx
      simp only [List.mem_cons, List.not_mem_nil, or_false] at this
      rcases this with rfl | rfl
      · exact ⟨_, rfl, l1⟩
      · exact ⟨_, rfl, l2⟩
    have lF := hl.F n0 n1
    have lq := hl.qb n1
    have hrows : Rows (s : Int) ws := fun w hw => (hl.2 w hw).1
    have ab : (s + 1) * (46 + 4) ≤ 200 := Nat.mul_le_mul_right 50 (show s + 1 ≤ 4 by omega)
    obtain ⟨r, S4, ep, hS4, hp⟩ := r_point_of (k + 28) S' s (5040 ^ 2) 46 ws lF
    subst hS4
    have lw := fun S => r__law_lot_wishes (k + 36) S 2 20 (s : Int) ws (hl.qb2 n1) (by have := hl.1; omega) (by omega)
    have vo := fun S => r_void (k + 35) S s ws hl n1
    have vl := void_lot (s := s) (ws := ws) fun w hw => by have := (hl.2 w hw).1; omega
    rcases hp with ⟨z, hz, rfl, hin⟩ | ⟨rfl, hno⟩
    case' inl =>
      have vf : voidW s (ws.map fun w => wholeW w.r w.b 0) = false := by
        cases e : voidW s (ws.map fun w => wholeW w.r w.b 0) with
        | false => rfl
        | true => exact absurd ⟨z, inM_iff.mpr hin⟩ (vl.mp e)
      rw [vf] at vo
      have sa := fun S => same_rw (k + 36) S s z (by omega)
      have ir := fun S => r__law_is_row (k + 36) S (rwD s z) (s : Int) (by omega) (bd_rw hz (by omega))
      rw [rowB_rw] at ir
      have li := fun S => r__law_liesF (k + 35) S s (5040 ^ 2) 46 _ ws z lF hz (inM_iff.mpr hin) (by omega)
      simp -implicitDefEqProofs [forB_app, ep, KE.pick, sa, lw, vo, ir, li, List.getElem?_cons_zero, List.getElem?_cons_succ, -List.map_map]
    case' inr =>
      have vt : voidW s (ws.map fun w => wholeW w.r w.b 0) = true := vl.mpr fun ⟨y, hy⟩ => hno ⟨y, inM_iff.mp hy⟩
      rw [vt] at vo
      have sa := fun S => same_none (k + 38) S
      have c1 : cmpD .isn .none .none = some false := rfl
      simp -implicitDefEqProofs [forB_app, ep, KE.pick, sa, lw, vo, c1, List.getElem?_cons_zero, List.getElem?_cons_succ, -List.map_map]
    all_goals
      refine (r__law_row _ S4 i _ s hu (by omega) (by omega) (by omega)).imp ?_
      rintro q5 S5 ⟨d5, rfl, ⟨p5, rfl, hp5l, hp5⟩, hu5, hs5⟩
      simp -implicitDefEqProofs
      refine (r__law_row _ S5 i _ s hu5 (by omega) (by omega) (by omega)).imp ?_
      rintro q6 S6 ⟨d6, rfl, ⟨p6, rfl, hp6l, hp6⟩, hu6, hs6⟩
      simp -implicitDefEqProofs [lenFits, sizeLine]
      refine for_inv (fun j e S' => S' = S6 ∧ ∃ y5 y6 y7, e = [some (.ref i), some (.d (.int s)), some (.d (lotD s ws)), some (.d (rowD pt)), some (.d (lotD s ws1)), y5, y6, y7]) ⟨rfl, _, _, _, rfl⟩ (fun j2 x e S' hx hI => ?_) (fun e S' hI => ?_)
      case refine_1 =>
        obtain ⟨rfl, y5, y6, y7, rfl⟩ := hI
        obtain ⟨p, rfl, hpl2, hp2⟩ : ∃ p, x = rowD p ∧ (p.length : Int) = s ∧ ∀ q ∈ p, Qb 1 3 q := by
          have := List.mem_of_getElem? hx
          simp only [List.mem_cons, List.not_mem_nil, or_false] at this
          rcases this with rfl | rfl | rfl
          · exact ⟨_, rfl, hpl, hpt⟩
          · exact ⟨_, rfl, hp5l, hp5⟩
          · exact ⟨_, rfl, hp6l, hp6⟩
        have la := fun S => r__law_lies (k + 35) S (s : Int) ws p 1 3 2 20 1 3 lq hp2 (by have := hl.1; omega) (by omega) (by omega)
        have li := fun S => r_lies_in (k + 31) S (s : Int) ws p 1 3 2 20 1 3 hrows (by omega) (by omega) (by have := hl.1; omega) hpl2 lq hp2 (by omega) (by omega)
        simp -implicitDefEqProofs [forB_app, la, li, biD, bRepr_1 (rep1 _), KE.pick, List.getElem?_cons_zero, List.getElem?_cons_succ]
      case refine_2 =>
        obtain ⟨rfl, y5, y6, y7, rfl⟩ := hI
        simp -implicitDefEqProofs
        exact ⟨(hs0.trans hs5).trans hs6, hu6.weak (by omega)⟩
  · obtain ⟨hs0, hu, y2, y5, y6, y7, rfl⟩ := hI
    have li := fun S => r_lies_in (k + 31) S (s : Int) ws1 pt 1 3 2 20 1 3 (fun w hw => (hw1 w hw).1) (by omega) (by omega) (by omega) (by omega) (l1.qb n1) hpt (by omega) (by omega)
    rw [hin] at li
    have c1 : cmpD .isx (.bool true) (.bool true) = some true := rfl
    simp -implicitDefEqProofs [li, c1, take_same hs0.1]
    exact hs0
end
--@ law
theorem r_law (k : Nat) (ns : List Int) : ∃ S', runF Pf Gc (k + 45) "law" [.ref 0] [.ro (ns.map PyData.int)] = .ok (.d (.bool true)) S' := by
  have main : Ok (runF Pf Gc (k + 45) "law" [.ref 0] [.ro (ns.map PyData.int)]) (fun r _ => r = .d (.bool true)) := by
    rw [run_fn p_law rfl]
    have hm : ∃ m : Nat, m ≤ 3 ∧ dI (runF Pf Gc (k + 44)) Gc (.rng [.bi .max [.i 1, .bi .min [.bi .len [.v 0], .i 3]]]) [some (.ref 0), none] [.ro (ns.map PyData.int)] = .ok ((List.range m).map fun (k : Nat) => .int k) [.ro (ns.map PyData.int)] := by
      refine ⟨(if (if 3 < (ns.length : Int) then 3 else (ns.length : Int)) > 1 then (if 3 < (ns.length : Int) then 3 else (ns.length : Int)) else 1).toNat, by split <;> split <;> omega, ?_⟩
      simp -implicitDefEqProofs
      rw [rng_1 (by split <;> split <;> omega)]
      rfl
    obtain ⟨m, hm3, hm⟩ := hm
    simp -implicitDefEqProofs [fn_law]
    refine lc_inv (xs := (List.range m).map fun (k : Nat) => PyData.int k) (fun j acc S' => S'[0]? = some (.ro (ns.map PyData.int)) ∧ S'[1]? = some (.lst acc) ∧ 2 ≤ S'.length ∧ acc = List.replicate j (.bool true)) hm (by simp -implicitDefEqProofs) (fun j acc S' h => ⟨h.2.1, by rw [h.2.2.2]; simp⟩) (by simp; omega) (fun j x acc S' hx h => ?_) (fun acc S' h => ?_)
    · obtain ⟨h0, h1, hl, rfl⟩ := h
      obtain ⟨hj, rfl⟩ : j < m ∧ x = .int j := by
        have h1 : j < m := by have := lt_of_get hx; simpa using this
        rw [List.getElem?_map, List.getElem?_range h1] at hx
        exact ⟨h1, by simpa using hx.symm⟩
      simp -implicitDefEqProofs [lcStep, wipeE]
      refine (r__law_well _ S' ns j 2000000 h0 (by omega) (by omega) (by decide)).imp ?_
      rintro r1 S1 ⟨c, rfl, rfl, hu⟩
      simp -implicitDefEqProofs
      refine (r__law_right (k + 4) _ _ _ hu (by omega)).imp ?_
      rintro r2 S2 ⟨rfl, hs⟩
      have q0 : S2[0]? = some (.ro (ns.map PyData.int)) := by rw [hs.2 0 (by omega), get_app (by omega)]; exact h0
      have q1 : S2[1]? = some (.lst (List.replicate j (.bool true))) := by rw [hs.2 1 (by omega), get_app (by omega)]; exact h1
      have q2 : S2.length = S'.length + 1 := by rw [hs.1]; simp -implicitDefEqProofs
      simp -implicitDefEqProofs [q1, -getElem?_pos]
      exact ⟨q0, by rw [get_set (by omega)], by omega, by rw [List.replicate_succ']⟩
    · obtain ⟨h0, h1, hl, rfl⟩ := h
      have hb : bAll [.list (List.replicate m (.bool true))] = some (.bool true) := by
        have := bAll_map (List.replicate m true) id
        rw [List.map_replicate] at this
        rw [show (PyData.bool (id true)) = .bool true from rfl] at this
        rw [this]
        simp -implicitDefEqProofs
      simp -implicitDefEqProofs [hb]
  obtain ⟨r, S', e, rfl⟩ := main
  exact ⟨S', e⟩
end Lw
theorem PySem.Challenge.cw_surehelms_k03_whole_points_of_lots_holds : PySem.Challenge.rw_surehelms_k03_whole_points_of_lots.Holds := by
  exact Lw.main_of (kk := 45) ⟨rfl, by decide, by decide⟩ fun ns _ _ => Lw.r_law 0 ns
