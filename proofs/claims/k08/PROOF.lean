import PyProof.Rows.All
import Wide.All
import OpenK.AllK
import Wide.FinOn
import KE.KStateDown
import HandS.ForMost
import HandS.Exc
import HandS.TryOnly
import HandS.ExcOwn
import HandS.WordsExc
import HandS.Defaults
import HandS.TupAny
import HandS.Deep
import HandS.Zip
import HandS.IsInst
import HandS.DictComp
import HandS.Lambda
import KE.GoesNew
import KE.GoesMore
import HandS.Wide
import HandS.SortInts
import HandS.Conv
import HandS.Style
import HandS.TupLe
import HandS.WideBits
import KE.SortKeyHeap
import KE.KDictSum
import HandS.HeadHook4
import HandS.HeadWalk
import HandS.ExcIs
import HandS.Nested
import HandS.SetFor
import HandS.EndTab
import HandS.TupMul
import PyProof.ReprRoads
import HandS.Head0
import HandS.Head1
import HandS.Head2
import HandS.Head3
import HandS.Head4
import HandS.NestedK
import KE.KNestM
import KE.IntBitsLaws
import PySem.Challenge.RW_followways_k08_whole_clauses_worlds_reso
set_option Elab.async false
set_option linter.all false
set_option maxRecDepth 100000
set_option maxHeartbeats 2000000
namespace Vx
open PySem PySem.Spec PyProof.Rows L2
abbrev D := PyData
abbrev Fo := Addr → Prop
def KTup (K : PySem.W.Frag) (a : Addr) (xs : List V) : Prop := ∃ (o : Obj) (its : Array Value) (n : Nat), K.lookup a = some o ∧ o.cls = .type "tuple" ∧ o.data = .seq its n ∧ its.size ≤ sizeLine ∧ Vals xs its.toList
def KLst (K : PySem.W.Frag) (a : Addr) (xs : List V) : Prop := ∃ (o : Obj) (its : Array Value) (n : Nat), K.lookup a = some o ∧ o.cls = .type "list" ∧ o.dict = none ∧ o.data = .seq its n ∧ its.size ≤ sizeLine ∧ Vals xs its.toList
def kD : Key → D
  | .inl i => .int i
  | .inr x => .str x
/-- keys are ints, texts -/
def plainK (ks : List (D × D)) : Bool := ks.all fun p => match p.1 with
  | .int _ => true
  | .str _ => true
  | _ => false
/-- an object of which just its place is known: a function, an error -/
def opD (t : Str) (a : Addr) : D := .dict [(.list [.str t], .int (a : Nat))]
@[simp] theorem plainK_op (t : Str) (a : Addr) : plainK [(.list [.str t], .int (a : Nat))] = false := rfl
mutual
inductive RD (K : PySem.W.Frag) (A : Fo) (H : Hp) : V → D → Prop
  | non : RD K A H .non .none
  | bl (b : Bool) : RD K A H (.bl b) (.bool b)
  | int (i : Int) : RD K A H (.int i) (.int i)
  | str (x : Str) : RD K A H (.str x) (.str x)
  | tupH {a : Addr} {xs : List V} {ds : List D} : Rd H a (.tup xs) → ¬ A a → RDs K A H xs ds → RD K A H (.ref a) (.tuple ds)
  | tupK {a : Addr} {xs : List V} {ds : List D} : KTup K a xs → RDs K A H xs ds → RD K A H (.ref a) (.tuple ds)
  | lstH {a : Addr} {xs : List V} {ds : List D} : Rd H a (.lst xs) → ¬ A a → RDs K A H xs ds → RD K A H (.ref a) (.list ds)
  | lstK {a : Addr} {xs : List V} {ds : List D} : KLst K a xs → RDs K A H xs ds → RD K A H (.ref a) (.list ds)
  | dct {a : Addr} {kvs : List (Key × V)} {kds : List (D × D)} : H a = some (.dK kvs) → ¬ A a → RKs K A H kvs kds → RD K A H (.ref a) (.dict kds)
  | opq {a : Addr} {t : Str} : RD K A H (.ref a) (.dict [(.list [.str t], .int (a : Nat))])
inductive RDs (K : PySem.W.Frag) (A : Fo) (H : Hp) : List V → List D → Prop
  | nil : RDs K A H [] []
  | cons {v : V} {vs : List V} {d : D} {ds : List D} : RD K A H v d → RDs K A H vs ds → RDs K A H (v :: vs) (d :: ds)
inductive RKs (K : PySem.W.Frag) (A : Fo) (H : Hp) : List (Key × V) → List (D × D) → Prop
  | nil : RKs K A H [] []
  | cons {k : Key} {v : V} {vs : List (Key × V)} {d : D} {ds : List (D × D)} : RD K A H v d → RKs K A H vs ds → RKs K A H ((k, v) :: vs) ((kD k, d) :: ds)
end
/-- not a table of code objects (these alone change without being ours) -/
def nTb : HO → Bool
  | .tbl _ => false
  | _ => true
/-- from (A, H) to (A', H'): what was not forbidden stands, what is newly forbidden was not there -/
structure Le (A : Fo) (H : Hp) (A' : Fo) (H' : Hp) : Prop where
  kept : ∀ b o, H b = some o → nTb o = true → ¬ A b → H' b = some o
  new : ∀ b, A' b → A b ∨ H b = none
  dom : ∀ b, H b ≠ none → H' b ≠ none
theorem Le.rd {A A' : Fo} {H H' : Hp} (l : Le A H A' H') {a : Addr} {u : HO} (r : Rd H a u) (n : ¬ A a) (hu : nTb u = true := by rfl) : Rd H' a u ∧ ¬ A' a := by
  refine ⟨?_, fun z => ?_⟩
  · rcases r with r | ⟨o, r⟩
    · exact .inl (l.kept _ _ r hu n)
    · exact .inr ⟨o, l.kept _ _ r rfl n⟩
  · rcases l.new _ z with z | z
    · exact n z
    · rcases r with r | ⟨o, r⟩ <;> (rw [r] at z; cases z)
theorem Le.rdd {A A' : Fo} {H H' : Hp} (l : Le A H A' H') {a : Addr} {u : HO} (r : H a = some u) (n : ¬ A a) (hu : nTb u = true := by rfl) : H' a = some u ∧ ¬ A' a := by
  refine ⟨l.kept _ _ r hu n, fun z => ?_⟩
  rcases l.new _ z with z | z
  · exact n z
  · rw [r] at z; cases z
section
variable {K : PySem.W.Frag} {A A' : Fo} {H H' : Hp}
mutual
theorem RD.mono (l : Le A H A' H') : ∀ (d : D) (v : V), RD K A H v d → RD K A' H' v d
  | .none, _, h => by cases h; exact .non
  | .bool b, _, h => by cases h; exact .bl b
  | .int i, _, h => by cases h; exact .int i
  | .str x, _, h => by cases h; exact .str x
  | .tuple ds, _, h => by
    cases h with
    | tupH r n q => exact .tupH (l.rd r n).1 (l.rd r n).2 (RDs.mono l ds _ q)
    | tupK r q => exact .tupK r (RDs.mono l ds _ q)
  | .list ds, _, h => by
    cases h with
    | lstH r n q => exact .lstH (l.rd r n).1 (l.rd r n).2 (RDs.mono l ds _ q)
    | lstK r q => exact .lstK r (RDs.mono l ds _ q)
  | .dict ks, _, h => by
    cases h with
    | dct r n q => exact .dct (l.rdd r n).1 (l.rdd r n).2 (RKs.mono l ks _ q)
    | opq => exact .opq
theorem RDs.mono (l : Le A H A' H') : ∀ (ds : List D) (vs : List V), RDs K A H vs ds → RDs K A' H' vs ds
  | [], _, h => by cases h; exact .nil
  | d :: ds, _, h => by
    cases h with
    | cons h1 h2 => exact .cons (RD.mono l d _ h1) (RDs.mono l ds _ h2)
theorem RKs.mono (l : Le A H A' H') : ∀ (ds : List (D × D)) (vs : List (Key × V)), RKs K A H vs ds → RKs K A' H' vs ds
  | [], _, h => by cases h; exact .nil
  | (_, d) :: ds, _, h => by
    cases h with
    | cons h1 h2 => exact .cons (RD.mono l d _ h1) (RKs.mono l ds _ h2)
end
end
theorem Le.refl (A : Fo) (H : Hp) : Le A H A H := ⟨fun _ _ h _ _ => h, fun _ h => .inl h, fun _ h => h⟩
theorem Le.less {A A' : Fo} {H : Hp} (h : ∀ b, A' b → A b) : Le A H A' H := ⟨fun _ _ h _ _ => h, fun _ z => .inl (h _ z), fun _ h => h⟩
theorem Le.trans {A A1 A2 : Fo} {H H1 H2 : Hp} (a : Le A H A1 H1) (b : Le A1 H1 A2 H2) : Le A H A2 H2 := by
  refine ⟨fun c o h t n => b.kept c o (a.kept c o h t n) t (a.rdd h n t).2, fun c z => ?_, fun c h => b.dom c (a.dom c h)⟩
  rcases b.new c z with z | z
  · exact a.new c z
  · cases q : H c with
    | none => exact .inr rfl
    | some o => exact absurd z (a.dom c (by rw [q]; exact fun z => nomatch z))
/-- the heap grows -/
theorem Le.same {A : Fo} {H H' : Hp} (h : ∀ b o, H b = some o → H' b = some o) : Le A H A H' := ⟨fun b o q _ _ => h b o q, fun _ z => .inl z, fun b q z => q (by
    cases c : H b with
    | none => rfl
    | some o => rw [h b o c] at z; cases z)⟩
section
variable {K : PySem.W.Frag} {A A' : Fo} {H H' : Hp}
theorem RDs.length : ∀ {vs : List V} {ds : List D}, RDs K A H vs ds → vs.length = ds.length
  | _, _, .nil => rfl
  | _, _, .cons _ t => by simp [RDs.length t]
theorem RDs.get : ∀ {vs : List V} {ds : List D} {i : Nat} {d : D}, RDs K A H vs ds → ds[i]? = some d → ∃ v, vs[i]? = some v ∧ RD K A H v d
  | _, _, i, d, .nil, h => by simp at h
  | _, _, 0, d, .cons r _, h => by simp at h; subst h; exact ⟨_, rfl, r⟩
  | _, _, i + 1, d, .cons _ t, h => by
    obtain ⟨v, h1, h2⟩ := RDs.get (i := i) (d := d) t (by simpa using h)
    exact ⟨v, by simpa using h1, h2⟩
theorem RDs.append : ∀ {vs ws : List V} {ds es : List D}, RDs K A H vs ds → RDs K A H ws es → RDs K A H (vs ++ ws) (ds ++ es)
  | _, _, _, _, .nil, s => s
  | _, _, _, _, .cons r t, s => .cons r (RDs.append t s)
theorem RDs.take : ∀ {vs : List V} {ds : List D} (n : Nat), RDs K A H vs ds → RDs K A H (vs.take n) (ds.take n)
  | _, _, 0, _ => by simp; exact .nil
  | _, _, _ + 1, .nil => by simp; exact .nil
  | _, _, n + 1, .cons r t => by simp; exact .cons r (RDs.take n t)
theorem RDs.drop : ∀ {vs : List V} {ds : List D} (n : Nat), RDs K A H vs ds → RDs K A H (vs.drop n) (ds.drop n)
  | _, _, 0, h => by simpa using h
  | _, _, _ + 1, .nil => by simp; exact .nil
  | _, _, n + 1, .cons _ t => by simp; exact RDs.drop n t
theorem RDs.set {v : V} {d : D} (r : RD K A H v d) : ∀ {vs : List V} {ds : List D} (i : Nat), RDs K A H vs ds → RDs K A H (vs.set i v) (ds.set i d)
  | _, _, _, .nil => by simp; exact .nil
  | _, _, 0, .cons _ t => by simp; exact .cons r t
  | _, _, i + 1, .cons q t => by simp; exact .cons q (RDs.set r i t)
theorem RDs.eraseIdx : ∀ {vs : List V} {ds : List D} (i : Nat), RDs K A H vs ds → RDs K A H (vs.eraseIdx i) (ds.eraseIdx i)
  | _, _, _, .nil => by simp; exact .nil
  | _, _, 0, .cons _ t => by simpa using t
  | _, _, i + 1, .cons q t => by simp; exact .cons q (RDs.eraseIdx i t)
theorem RDs.reverse : ∀ {vs : List V} {ds : List D}, RDs K A H vs ds → RDs K A H vs.reverse ds.reverse
  | _, _, .nil => by simp; exact .nil
  | _, _, .cons r t => by simp; exact (RDs.reverse t).append (.cons r .nil)
theorem RDs.dropLast {vs : List V} {ds : List D} (h : RDs K A H vs ds) : RDs K A H vs.dropLast ds.dropLast := by
  rw [List.dropLast_eq_take, List.dropLast_eq_take, h.length]
  exact h.take _
theorem RDs.rep : ∀ (n : Nat) {vs : List V} {ds : List D}, RDs K A H vs ds → RDs K A H (List.replicate n vs).flatten (List.replicate n ds).flatten
  | 0, _, _, _ => by simp; exact .nil
  | n + 1, _, _, h => by
    rw [List.replicate_succ, List.replicate_succ, List.flatten_cons, List.flatten_cons]
    exact h.append (RDs.rep n h)
theorem RDs.ints : ∀ (ns : List Int), RDs K A H (ns.map V.int) (ns.map PyData.int)
  | [] => .nil
  | n :: r => .cons (.int n) (RDs.ints r)
theorem RDs.of_ints : ∀ {vs : List V} {ns : List Int}, RDs K A H vs (ns.map PyData.int) → vs = ns.map V.int
  | _, [], h => by cases h; rfl
  | _, n :: r, h => by
    cases h with
    | cons h1 h2 => cases h1; rw [RDs.of_ints h2]; rfl
theorem RDs.of_bools : ∀ {vs : List V} {ns : List Bool}, RDs K A H vs (ns.map PyData.bool) → vs = ns.map V.bl
  | _, [], h => by cases h; rfl
  | _, n :: r, h => by
    cases h with
    | cons h1 h2 => cases h1; rw [RDs.of_bools h2]; rfl
theorem RDs.of_strs : ∀ {vs : List V} {ns : List Str}, RDs K A H vs (ns.map PyData.str) → vs = ns.map V.str
  | _, [], h => by cases h; rfl
  | _, n :: r, h => by
    cases h with
    | cons h1 h2 => cases h1; rw [RDs.of_strs h2]; rfl
end
def OB (K : PySem.W.Frag) (A : Fo) (H : Hp) (a : Addr) : D → Prop
  | .list ds => ∃ xs, H a = some (.lst xs) ∧ RDs K A H xs ds
  | .dict ks => ∃ kvs, H a = some (.dK kvs) ∧ RKs K A H kvs ks
  | _ => False
theorem OB.at {K : PySem.W.Frag} {A : Fo} {H : Hp} {a : Addr} {d : D} (h : OB K A H a d) : ∃ o, H a = some o := by
  cases d <;> first | exact h.elim | (obtain ⟨xs, h, _⟩ := h; exact ⟨_, h⟩)
theorem OB.rd {K : PySem.W.Frag} {A : Fo} {H : Hp} {a : Addr} {d : D} (h : OB K A H a d) (n : ¬ A a) : RD K A H (.ref a) d := by
  cases d <;> first
    | exact h.elim
    | (obtain ⟨xs, h, q⟩ := h; exact .lstH (.inl h) n q)
    | (obtain ⟨xs, h, q⟩ := h; exact .dct h n q)
theorem OB.mono {K : PySem.W.Frag} {A A' : Fo} {H H' : Hp} {a : Addr} {d : D} (h : OB K A H a d) (l : Le A H A' H') (e : ∀ o, H a = some o → H' a = some o) : OB K A' H' a d := by
  cases d <;> first
    | exact h.elim
    | (obtain ⟨xs, h, q⟩ := h; exact ⟨xs, e _ h, RDs.mono l _ _ q⟩)
    | (obtain ⟨xs, h, q⟩ := h; exact ⟨xs, e _ h, RKs.mono l _ _ q⟩)
theorem OB.mono' {K : PySem.W.Frag} {A A' : Fo} {H H' : Hp} {a : Addr} {d : D} (h : OB K A H a d) (l : Le A H A' H') (e : ∀ o, H a = some o → nTb o = true → H' a = some o) : OB K A' H' a d := by
  cases d <;> first
    | exact h.elim
    | (obtain ⟨xs, h, q⟩ := h; exact ⟨xs, e _ h rfl, RDs.mono l _ _ q⟩)
    | (obtain ⟨xs, h, q⟩ := h; exact ⟨xs, e _ h rfl, RKs.mono l _ _ q⟩)
/-- what may be read now: data, or a list (dict) whose items are data -/
inductive RB (K : PySem.W.Frag) (A : Fo) (H : Hp) (v : V) (d : D) : Prop
  | rd : RD K A H v d → RB K A H v d
  | ob {a : Addr} : v = .ref a → OB K A H a d → RB K A H v d
  | ls {a : Addr} {xs : List V} {ds : List D} : v = .ref a → d = .list ds → SqL K H a xs → RDs K A H xs ds → RB K A H v d
section
variable {K : PySem.W.Frag} {A : Fo} {H : Hp} {v : V}
theorem RB.int {i : Int} (h : RB K A H v (.int i)) : v = .int i := by
  cases h with
  | rd h => cases h; rfl
  | ob e h => exact h.elim
  | ls e e2 => cases e2
theorem RB.bl {i : Bool} (h : RB K A H v (.bool i)) : v = .bl i := by
  cases h with
  | rd h => cases h; rfl
  | ob e h => exact h.elim
  | ls e e2 => cases e2
theorem RB.str {i : Str} (h : RB K A H v (.str i)) : v = .str i := by
  cases h with
  | rd h => cases h; rfl
  | ob e h => exact h.elim
  | ls e e2 => cases e2
theorem RB.non (h : RB K A H v .none) : v = .non := by
  cases h with
  | rd h => cases h; rfl
  | ob e h => exact h.elim
  | ls e e2 => cases e2
theorem RB.tup {ds : List D} (h : RB K A H v (.tuple ds)) : ∃ a xs, v = .ref a ∧ SqT K H a xs ∧ RDs K A H xs ds := by
  cases h with
  | rd h =>
    cases h with
    | tupH r n q => exact ⟨_, _, rfl, .inl r, q⟩
    | tupK r q => exact ⟨_, _, rfl, .inr r, q⟩
  | ob e h => exact h.elim
  | ls e e2 => cases e2
theorem RB.lst {ds : List D} (h : RB K A H v (.list ds)) : ∃ a xs, v = .ref a ∧ SqL K H a xs ∧ RDs K A H xs ds := by
  cases h with
  | rd h =>
    cases h with
    | lstH r n q => exact ⟨_, _, rfl, .inl r, q⟩
    | lstK r q => exact ⟨_, _, rfl, .inr r, q⟩
  | ob e h => obtain ⟨xs, h, q⟩ := h; exact ⟨_, _, e, SqL.of h, q⟩
  | ls e e2 h q => cases e2; exact ⟨_, _, e, h, q⟩
theorem RKs.plain : ∀ {xs : List (Key × V)} {ds : List (D × D)}, RKs K A H xs ds → plainK ds = true
  | _, _, .nil => rfl
  | (.inl _, _) :: _, _ :: _, .cons _ t => have q := RKs.plain t; q
  | (.inr _, _) :: _, _ :: _, .cons _ t => have q := RKs.plain t; q
theorem RB.dct {ds : List (D × D)} (h : RB K A H v (.dict ds)) (p : plainK ds = true) : ∃ a xs, v = .ref a ∧ H a = some (.dK xs) ∧ RKs K A H xs ds := by
  cases h with
  | rd h =>
    cases h with
    | dct r n q => exact ⟨_, _, rfl, r, q⟩
    | opq => cases p
  | ob e h => obtain ⟨xs, h, q⟩ := h; exact ⟨_, _, e, h, q⟩
  | ls e e2 => cases e2
end
mutual
def noDict : D → Bool
  | .dict _ => false
  | .tuple ds => noDicts ds
  | .list ds => noDicts ds
  | _ => true
def noDicts : List D → Bool
  | [] => true
  | d :: ds => noDict d && noDicts ds
end
section
variable {K : PySem.W.Frag} {A : Fo} {H : Hp}
theorem sqT_K {a : Addr} {xs : List V} (h : KTup K a xs) : SqT K H a xs := .inr h
theorem sqL_K {a : Addr} {xs : List V} (h : KLst K a xs) : SqL K H a xs := .inr h
mutual
theorem RD.dp : ∀ (d : D) (v : V), RD K A H v d → noDict d = true → Dp K H v d
  | .none, _, h, _ => by cases h; exact .non
  | .bool b, _, h, _ => by cases h; exact .bl b
  | .int i, _, h, _ => by cases h; exact .int i
  | .str x, _, h, _ => by cases h; exact .str x
  | .tuple ds, _, h, n => by
    have n' : noDicts ds = true := by simpa [noDict] using n
    cases h with
    | tupH r _ q => exact .tup (.inl r) (RDs.dp ds _ q n')
    | tupK r q => exact .tup (sqT_K r) (RDs.dp ds _ q n')
  | .list ds, _, h, n => by
    have n' : noDicts ds = true := by simpa [noDict] using n
    cases h with
    | lstH r _ q => exact .lst (.inl r) (RDs.dp ds _ q n')
    | lstK r q => exact .lst (sqL_K r) (RDs.dp ds _ q n')
  | .dict ks, _, h, n => by simp [noDict] at n
theorem RDs.dp : ∀ (ds : List D) (vs : List V), RDs K A H vs ds → noDicts ds = true → DpAll K H vs ds
  | [], _, h, _ => by cases h; exact .nil
  | d :: ds, _, h, n => by
    have n' : noDict d = true ∧ noDicts ds = true := by simpa [noDicts] using n
    cases h with
    | cons h1 h2 => exact .cons (RD.dp d _ h1 n'.1) (RDs.dp ds _ h2 n'.2)
end
theorem RB.dp {d : D} {v : V} (h : RB K A H v d) (n : noDict d = true) : Dp K H v d := by
  cases h with
  | rd h => exact RD.dp d v h n
  | ob e h =>
    subst e
    cases d <;> first
      | exact h.elim
      | (obtain ⟨xs, h, q⟩ := h; exact .lst (SqL.of h) (RDs.dp _ _ q (by simpa [noDict] using n)))
      | (simp [noDict] at n)
  | ls e e2 h q =>
    subst e e2
    exact .lst h (RDs.dp _ _ q (by simpa [noDict] using n))
end
mutual
theorem noDict_lay : ∀ d : D, d.canLay0 = true → noDict d = true
  | .none, _ => rfl
  | .bool _, _ => rfl
  | .int _, _ => rfl
  | .str _, _ => rfl
  | .tuple ds, h => by
    have h' : PyData.canLayAll0 ds = true := by simpa [PyData.canLay0] using h
    simpa [noDict] using noDicts_lay ds h'
  | .list ds, h => by
    have h' : PyData.canLayAll0 ds = true := by simpa [PyData.canLay0] using h
    simpa [noDict] using noDicts_lay ds h'
  | .dict ks, h => by simp [PyData.canLay0] at h
theorem noDicts_lay : ∀ ds : List D, PyData.canLayAll0 ds = true → noDicts ds = true
  | [], _ => rfl
  | d :: ds, h => by
    have h' : d.canLay0 = true ∧ PyData.canLayAll0 ds = true := by simpa [PyData.canLayAll0] using h
    simp [noDicts, noDict_lay d h'.1, noDicts_lay ds h'.2]
end
theorem noDict_shaped {d : D} (h : SeqAt.shaped d = true) : noDict d = true := noDict_lay d (Bool.and_eq_true_iff.mp h).1
end Vx
set_option maxHeartbeats 2000000
namespace Vx
open PySem PySem.Spec PyProof.Rows L2
/-- a slot: without a value; data; a list lent to be read; an own list; a list lent to be changed -/
inductive Sl where
  | un | cl (d : D) | bo (d : D) | ow (d : D) | le (d : D)
abbrev Ev := List Sl
structure Er where
  cls : Str
  arg : Option D := none
inductive Rs (α : Type) where
  | ok (a : α) (ρ : Ev)
  | er (x : Er) (ρ : Ev)
  | no
abbrev M (α : Type) := Ev → Rs α
def Rs.bind {α β : Type} (r : Rs α) (f : α → Ev → Rs β) : Rs β := match r with
  | .ok a ρ => f a ρ
  | .er x ρ => .er x ρ
  | .no => .no
@[simp] theorem Rs.bind_ok {α β : Type} (a : α) (ρ : Ev) (f : α → Ev → Rs β) : (Rs.ok a ρ).bind f = f a ρ := rfl
@[simp] theorem Rs.bind_er {α β : Type} (x : Er) (ρ : Ev) (f : α → Ev → Rs β) : (Rs.er x ρ).bind f = .er x ρ := rfl
@[simp] theorem Rs.bind_no {α β : Type} (f : α → Ev → Rs β) : (Rs.no : Rs α).bind f = .no := rfl
/-- from an option -/
def opt {α : Type} (ρ : Ev) : Option α → Rs α
  | some a => .ok a ρ
  | none => .no
@[simp] theorem opt_some {α : Type} (ρ : Ev) (a : α) : opt ρ (some a) = .ok a ρ := rfl
@[simp] theorem opt_none {α : Type} (ρ : Ev) : opt ρ (none : Option α) = .no := rfl
/-- a value: data, a new list (dict), the list of a slot -/
inductive Op where
  | val (d : D) | fr (d : D) | sl (i : Nat)
def rdS : Option Sl → Option D
  | some (.cl d) => some d
  | some (.bo d) => some d
  | some (.ow d) => some d
  | some (.le d) => some d
  | _ => none
@[simp] theorem rdS_cl (d : D) : rdS (some (.cl d)) = some d := rfl
@[simp] theorem rdS_bo (d : D) : rdS (some (.bo d)) = some d := rfl
@[simp] theorem rdS_ow (d : D) : rdS (some (.ow d)) = some d := rfl
@[simp] theorem rdS_le (d : D) : rdS (some (.le d)) = some d := rfl
def rd (ρ : Ev) : Op → Option D
  | .val d => some d
  | .fr d => some d
  | .sl i => rdS ρ[i]?
@[simp] theorem rd_val (ρ : Ev) (d : D) : rd ρ (.val d) = some d := rfl
@[simp] theorem rd_fr (ρ : Ev) (d : D) : rd ρ (.fr d) = some d := rfl
@[simp] theorem rd_sl (ρ : Ev) (i : Nat) : rd ρ (.sl i) = rdS ρ[i]? := rfl
def mC (d : D) : M Op := fun ρ => .ok (.val d) ρ
def slV (i : Nat) : Option Sl → Option Op
  | some (.cl d) => some (.val d)
  | some (.bo _) => some (.sl i)
  | some (.ow _) => some (.sl i)
  | some (.le _) => some (.sl i)
  | _ => none
@[simp] theorem slV_cl (i : Nat) (d : D) : slV i (some (.cl d)) = some (.val d) := rfl
@[simp] theorem slV_bo (i : Nat) (d : D) : slV i (some (.bo d)) = some (.sl i) := rfl
@[simp] theorem slV_ow (i : Nat) (d : D) : slV i (some (.ow d)) = some (.sl i) := rfl
@[simp] theorem slV_le (i : Nat) (d : D) : slV i (some (.le d)) = some (.sl i) := rfl
def mV (i : Nat) : M Op := fun ρ => opt ρ (slV i ρ[i]?)
def m1 (f : D → Option Op) (ma : M Op) : M Op := fun ρ => (ma ρ).bind fun x ρ1 => opt ρ1 ((rd ρ1 x).bind f)
def m2 (f : D → D → Option Op) (ma mb : M Op) : M Op := fun ρ => (ma ρ).bind fun x ρ1 => (mb ρ1).bind fun y ρ2 => opt ρ2 ((rd ρ2 x).bind fun a => (rd ρ2 y).bind fun b => f a b)
/-- argument lists -/
def aNil : M (List Op) := fun ρ => .ok [] ρ
def aCons (ma : M Op) (as : M (List Op)) : M (List Op) := fun ρ => (ma ρ).bind fun x ρ1 => (as ρ1).bind fun xs ρ2 => .ok (x :: xs) ρ2
def rds (ρ : Ev) : List Op → Option (List D)
  | [] => some []
  | x :: xs => (rd ρ x).bind fun a => (rds ρ xs).bind fun as => some (a :: as)
@[simp] theorem rds_nil (ρ : Ev) : rds ρ [] = some [] := rfl
@[simp] theorem rds_cons (ρ : Ev) (x : Op) (xs : List Op) : rds ρ (x :: xs) = (rd ρ x).bind fun a => (rds ρ xs).bind fun as => some (a :: as) := rfl
def mB (f : List D → Option Op) (as : M (List Op)) : M Op := fun ρ => (as ρ).bind fun xs ρ1 => opt ρ1 ((rds ρ1 xs).bind f)
/-- data of a value that is kept: an own list is shared from now on -/
def keepS (i : Nat) (ρ : Ev) : Option Sl → Option (D × Ev)
  | some (.cl d) => some (d, ρ)
  | some (.ow d) => some (d, ρ.set i (.cl d))
  | _ => none
@[simp] theorem keepS_cl (i : Nat) (ρ : Ev) (d : D) : keepS i ρ (some (.cl d)) = some (d, ρ) := rfl
@[simp] theorem keepS_ow (i : Nat) (ρ : Ev) (d : D) : keepS i ρ (some (.ow d)) = some (d, ρ.set i (.cl d)) := rfl
def kp (ρ : Ev) : Op → Option (D × Ev)
  | .val d => some (d, ρ)
  | .fr d => some (d, ρ)
  | .sl i => keepS i ρ ρ[i]?
@[simp] theorem kp_val (ρ : Ev) (d : D) : kp ρ (.val d) = some (d, ρ) := rfl
@[simp] theorem kp_fr (ρ : Ev) (d : D) : kp ρ (.fr d) = some (d, ρ) := rfl
@[simp] theorem kp_sl (ρ : Ev) (i : Nat) : kp ρ (.sl i) = keepS i ρ ρ[i]? := rfl
/-- from an option with a new environment -/
def optE {α : Type} : Option (α × Ev) → Rs α
  | some (a, ρ) => .ok a ρ
  | none => .no
@[simp] theorem optE_some {α : Type} (a : α) (ρ : Ev) : optE (some (a, ρ)) = .ok a ρ := rfl
@[simp] theorem optE_none {α : Type} : optE (none : Option (α × Ev)) = .no := rfl
/-- the value is data from now on -/
def mK (ma : M Op) : M D := fun ρ => (ma ρ).bind fun x ρ1 => optE (kp ρ1 x)
/-- kept arguments (a display's) -/
def kNil : M (List D) := fun ρ => .ok [] ρ
def kCons (ma : M Op) (as : M (List D)) : M (List D) := fun ρ => (mK ma ρ).bind fun x ρ1 => (as ρ1).bind fun xs ρ2 => .ok (x :: xs) ρ2
def mTup (as : M (List D)) : M Op := fun ρ => (as ρ).bind fun xs ρ1 => if xs.length ≤ sizeLine then .ok (.val (.tuple xs)) ρ1 else .no
def mLst (as : M (List D)) : M Op := fun ρ => (as ρ).bind fun xs ρ1 => if xs.length ≤ sizeLine then .ok (.fr (.list xs)) ρ1 else .no
def isB : D → Option Bool
  | .bool b => some b
  | _ => none
@[simp] theorem isB_bool (b : Bool) : isB (.bool b) = some b := rfl
def truD : D → Option Bool
  | .none => some false
  | .bool b => some b
  | .int i => some (i != 0)
  | .str x => if x.length ≤ sizeLine then some (x.length != 0) else none
  | .list ds => some (!ds.isEmpty)
  | .tuple ds => some (!ds.isEmpty)
  | _ => none
/-- a test whose value is a bool -/
def mT (ma : M Op) : M Bool := fun ρ => (ma ρ).bind fun x ρ1 => opt ρ1 ((rd ρ1 x).bind isB)
/-- a test by truth -/
def mTr (ma : M Op) : M Bool := fun ρ => (ma ρ).bind fun x ρ1 => opt ρ1 ((rd ρ1 x).bind truD)
def mNot (t : M Bool) : M Bool := fun ρ => (t ρ).bind fun b ρ1 => .ok (!b) ρ1
def mAnd (t u : M Bool) : M Bool := fun ρ => (t ρ).bind fun b ρ1 => if b = true then u ρ1 else .ok false ρ1
def mOr (t u : M Bool) : M Bool := fun ρ => (t ρ).bind fun b ρ1 => if b = true then .ok true ρ1 else u ρ1
def mIf {α : Type} (c : M Bool) (a b : M α) : M α := fun ρ => (c ρ).bind fun k ρ1 => if k = true then a ρ1 else b ρ1
/-- not x, as a value -/
def mNotV (t : M Bool) : M Op := fun ρ => (t ρ).bind fun b ρ1 => .ok (.val (.bool (!b))) ρ1
/-- x and y, x or y as a value, x a bool -/
def mAndV (t : M Bool) (u : M Op) : M Op := fun ρ => (t ρ).bind fun b ρ1 => if b = true then u ρ1 else .ok (.val (.bool false)) ρ1
def mOrV (t : M Bool) (u : M Op) : M Op := fun ρ => (t ρ).bind fun b ρ1 => if b = true then .ok (.val (.bool true)) ρ1 else u ρ1
inductive Fl where
  | nx | bk | ct | rt (x : Op)
def sNx : M Fl := fun ρ => .ok .nx ρ
def sBk : M Fl := fun ρ => .ok .bk ρ
def sCt : M Fl := fun ρ => .ok .ct ρ
def sSeq (a b : M Fl) : M Fl := fun ρ => (a ρ).bind fun f ρ1 => match f with
  | .nx => b ρ1
  | .bk => .ok .bk ρ1
  | .ct => .ok .ct ρ1
  | .rt x => .ok (.rt x) ρ1
def sIf (c : M Bool) (a b : M Fl) : M Fl := mIf c a b
def sRet (ma : M Op) : M Fl := fun ρ => (ma ρ).bind fun x ρ1 => .ok (.rt x) ρ1
def sRetN : M Fl := fun ρ => .ok (.rt (.val .none)) ρ
def sDrop (ma : M Op) : M Fl := fun ρ => (ma ρ).bind fun _ ρ1 => .ok .nx ρ1
def sNo : M Fl := fun _ => .no
/-- a slot may be stored to -/
def free : Option Sl → Bool
  | some (.le _) => false
  | some _ => true
  | none => false
/-- the value goes to the slot i -/
def stO (i : Nat) (ρ : Ev) : Op → Option Ev
  | .val d => if free ρ[i]? then some (ρ.set i (.cl d)) else none
  | .fr d => if free ρ[i]? then some (ρ.set i (.ow d)) else none
  | .sl j => if free ρ[i]? then (keepS j ρ ρ[j]?).bind fun p => some (p.2.set i (.cl p.1)) else none
def oNx : Option Ev → Rs Fl
  | some ρ => .ok .nx ρ
  | none => .no
@[simp] theorem oNx_some (ρ : Ev) : oNx (some ρ) = .ok .nx ρ := rfl
@[simp] theorem oNx_none : oNx none = .no := rfl
def sSet (i : Nat) (ma : M Op) : M Fl := fun ρ => (ma ρ).bind fun x ρ1 => oNx (stO i ρ1 x)
/-- targets: data d goes to names -/
abbrev Tg := D → Ev → Option Ev
def tName (i : Nat) : Tg := fun d ρ => if free ρ[i]? then some (ρ.set i (.cl d)) else none
abbrev Tgs := List D → Ev → Option Ev
def tsNil : Tgs := fun ds ρ => match ds with
  | [] => some ρ
  | _ => none
def tsCons (t : Tg) (u : Tgs) : Tgs := fun ds ρ => match ds with
  | d :: r => (t d ρ).bind (u r)
  | [] => none
def tTup (u : Tgs) : Tg := fun d ρ => match d with
  | .tuple ds => u ds ρ
  | _ => none
/-- target = data -/
def sTg (t : Tg) (ma : M Op) : M Fl := fun ρ => (mK ma ρ).bind fun d ρ1 => oNx (t d ρ1)
/-- the rest of the items -/
def forI (t : Tg) (body : M Fl) : List D → M Fl
  | [], ρ => .ok .nx ρ
  | d :: ds, ρ => match t d ρ with
    | none => .no
    | some ρ1 => (body ρ1).bind fun f ρ2 => match f with
      | .nx => forI t body ds ρ2
      | .ct => forI t body ds ρ2
      | .bk => .ok .nx ρ2
      | .rt x => .ok (.rt x) ρ2
def sFor (it : M (List D)) (t : Tg) (body : M Fl) : M Fl := fun ρ => (it ρ).bind fun ds ρ1 => forI t body ds ρ1
def whI (c : M Bool) (body : M Fl) : Nat → M Fl
  | 0, _ => .no
  | n + 1, ρ => (c ρ).bind fun b ρ1 => if b = true then (body ρ1).bind fun f ρ2 => match f with
      | .nx => whI c body n ρ2
      | .ct => whI c body n ρ2
      | .bk => .ok .nx ρ2
      | .rt x => .ok (.rt x) ρ2
    else .ok .nx ρ1
/-- what is walked -/
def itL : D → Option (List D)
  | .list ds => some ds
  | .tuple ds => some ds
  | _ => none
@[simp] theorem itL_list (ds : List D) : itL (.list ds) = some ds := rfl
@[simp] theorem itL_tuple (ds : List D) : itL (.tuple ds) = some ds := rfl
def iSeq (ma : M Op) : M (List D) := fun ρ => (mK ma ρ).bind fun d ρ1 => opt ρ1 (itL d)
def unS (ρ : Ev) : List Nat → Ev
  | [] => ρ
  | v :: vs => (unS ρ vs).set v .un
/-- no own list in the comprehension's slots -/
def wipable : Option Sl → Bool
  | some (.ow _) => false
  | some (.le _) => false
  | some _ => true
  | none => false
/-- behind the block the slots are as before -/
def bkS (ρ : Ev) (ρ' : Ev) : List Nat → Ev
  | [] => ρ'
  | v :: vs => (bkS ρ ρ' vs).set v (ρ[v]?.getD .un)
def lcI (t : Tg) (tt : M Bool) (e : M Op) (vs : List Nat) : List D → List D → M (List D)
  | [], acc, ρ => .ok acc ρ
  | d :: ds, acc, ρ => match t d (unS ρ vs) with
    | none => .no
    | some ρ1 => match tt ρ1 with
      | .ok true ρ2 => (match mK e ρ2 with
        | .ok y ρ3 => if acc.length < sizeLine then lcI t tt e vs ds (acc ++ [y]) ρ3 else .no
        | _ => .no)
      | .ok false ρ2 => lcI t tt e vs ds acc ρ2
      | _ => .no
def mLc (it : M (List D)) (t : Tg) (tt : M Bool) (e : M Op) (vs : List Nat) : M Op := fun ρ => (it ρ).bind fun ds ρ1 =>
  if vs.all (fun v => wipable ρ1[v]?) then (match lcI t tt e vs ds [] ρ1 with
    | .ok acc ρ2 => .ok (.fr (.list acc)) (bkS ρ1 ρ2 vs)
    | _ => .no) else .no
def tYesM : M Bool := fun ρ => .ok true ρ
/-- a parameter: to be read; to be kept; to be changed -/
inductive Md where
  | pl | kp | mu
  deriving DecidableEq
inductive FR where
  | ok (fr : Bool) (d : D) (outs : List D)
  | er (x : Er) (outs : List D)
  | no
def isObjD : D → Bool
  | .list _ => true
  | .dict ks => plainK ks
  | _ => false
def entS : Md → D → Sl
  | .pl, d => if isObjD d then .bo d else .cl d
  | .kp, d => .cl d
  | .mu, d => .le d
def entA : List Md → List D → Ev
  | m :: ms, d :: ds => entS m d :: entA ms ds
  | _, _ => []
def leS : Option Sl → Option D
  | some (.le d) => some d
  | _ => none
def outsA (ρ : Ev) : List Md → Nat → Option (List D)
  | [], _ => some []
  | .mu :: ms, i => (leS ρ[i]?).bind fun d => (outsA ρ ms (i + 1)).bind fun r => some (d :: r)
  | _ :: ms, i => outsA ρ ms (i + 1)
def resO (ρ : Ev) : Op → Option (Bool × D)
  | .val d => some (false, d)
  | .fr d => some (true, d)
  | .sl i => match ρ[i]? with
    | some (.ow d) => some (true, d)
    | some (.cl d) => some (false, d)
    | _ => none
def finR (md : List Md) : Rs Fl → FR
  | .ok (.rt x) ρ => (match resO ρ x, outsA ρ md 0 with
    | some (b, d), some outs => .ok b d outs
    | _, _ => .no)
  | .ok .nx ρ => (match outsA ρ md 0 with
    | some outs => .ok false .none outs
    | none => .no)
  | .er x ρ => (match outsA ρ md 0 with
    | some outs => .er x outs
    | none => .no)
  | _ => .no
/-- n: the slots behind the parameters -/
def runD (md : List Md) (n : Nat) (body : M Fl) (ds : List D) : FR :=
  if ds.length = md.length then finR md (body (entA md ds ++ List.replicate n .un)) else .no
/-- the arguments: data, the slots that are lent -/
def prep : List Md → List Op → Ev → Option (List D × List Nat × Ev)
  | [], [], ρ => some ([], [], ρ)
  | .pl :: ms, x :: xs, ρ => (rd ρ x).bind fun d => (prep ms xs ρ).bind fun r => some (d :: r.1, r.2.1, r.2.2)
  | .kp :: ms, x :: xs, ρ => (kp ρ x).bind fun p => (prep ms xs p.2).bind fun r => some (p.1 :: r.1, r.2.1, r.2.2)
  | .mu :: ms, .sl i :: xs, ρ => (match ρ[i]? with
    | some (.ow d) => (prep ms xs ρ).bind fun r => if i ∈ r.2.1 then none else some (d :: r.1, i :: r.2.1, r.2.2)
    | some (.le d) => (prep ms xs ρ).bind fun r => if i ∈ r.2.1 then none else some (d :: r.1, i :: r.2.1, r.2.2)
    | _ => none)
  | _, _, _ => none
def putS (d : D) : Option Sl → Option Sl
  | some (.ow _) => some (.ow d)
  | some (.le _) => some (.le d)
  | _ => none
def putA : List Nat → List D → Ev → Option Ev
  | [], [], ρ => some ρ
  | i :: is, d :: ds, ρ => (putS d ρ[i]?).bind fun s => putA is ds (ρ.set i s)
  | _, _, _ => none
/-- no slot that is lent to be changed is lent to be read too -/
def apart (md : List Md) (xs : List Op) (is : List Nat) : Bool := match md, xs with
  | .pl :: ms, .sl i :: xs => !decide (i ∈ is) && apart ms xs is
  | _ :: ms, _ :: xs => apart ms xs is
  | _, _ => true
def mDef (g : List D → FR) (md : List Md) (as : M (List Op)) : M Op := fun ρ => (as ρ).bind fun xs ρ1 => match prep md xs ρ1 with
  | none => .no
  | some (ds, is, ρ2) => if apart md xs is then (match g ds with
    | .ok b d outs => (match putA is outs ρ2 with
      | some ρ3 => .ok (if b then .fr d else .val d) ρ3
      | none => .no)
    | .er x outs => (match putA is outs ρ2 with
      | some ρ3 => .er x ρ3
      | none => .no)
    | .no => .no) else .no
/-- xs.append(e) -/
def mApp (i : Nat) (me : M Op) : M Op := fun ρ => (mK me ρ).bind fun d ρ1 => match ρ1[i]? with
  | some (.ow (.list ds)) => if ds.length < sizeLine then .ok (.val .none) (ρ1.set i (.ow (.list (ds ++ [d])))) else .no
  | some (.le (.list ds)) => if ds.length < sizeLine then .ok (.val .none) (ρ1.set i (.le (.list (ds ++ [d])))) else .no
  | _ => .no
end Vx
set_option maxHeartbeats 2000000
namespace Vx
open PySem PySem.Spec L2
/-- a body's constants: what is forbidden (the callers' own lists), the lent lists by slot, the heap at the entry, what is wanted of an error, the classes -/
structure Fc where
  B : Fo
  lt : Nat → Option Addr
  H0 : Hp
  W : WX
  cn : Str → Addr
  tb : List (Addr × Str)
def Fc.L (F : Fc) (b : Addr) : Prop := ∃ i, F.lt i = some b
/-- an error of a mirror, as it lies -/
def ErOk (cn : Str → Addr) (x : Er) (c : Value) (dd : Option Addr) (H : Hp) : Prop :=
  c = .ref (cn x.cls) ∧ (x.arg = none → dd = none)
/-- the tables stand where a list, a dict is changed -/
theorem tabs_upd {T : List (Addr × Str)} {H : Hp} {a : Addr} {u o : HO} (h : LamX.Tabs T H) (ha : H a = some u) (n1 : ∀ ps, u ≠ .tbl ps) (n2 : ∀ φ, u ≠ .ext φ) : LamX.Tabs T (upd H a o) := fun p hp => by
  obtain ⟨ps, h1, h2, h3⟩ := h p hp
  have np : p.1 ≠ a := fun z => by rw [z, ha] at h1; exact n1 ps (Option.some.inj h1)
  refine ⟨ps, by rw [upd_ne np]; exact h1, h2, fun pos cv hc => ?_⟩
  obtain ⟨c, e1, e2⟩ := h3 pos cv hc
  have nc : c ≠ a := fun z => by rw [z, ha] at e2; exact n2 _ (Option.some.inj e2)
  exact ⟨c, e1, by rw [upd_ne nc]; exact e2⟩
theorem tabs_lst {T : List (Addr × Str)} {H : Hp} {a : Addr} {xs : List V} {o : HO} (h : LamX.Tabs T H) (ha : H a = some (.lst xs)) : LamX.Tabs T (upd H a o) := tabs_upd h ha (fun _ z => nomatch z) fun _ z => nomatch z
theorem tabs_dct {T : List (Addr × Str)} {H : Hp} {a : Addr} {xs : List (Key × V)} {o : HO} (h : LamX.Tabs T H) (ha : H a = some (.dK xs)) : LamX.Tabs T (upd H a o) := tabs_upd h ha (fun _ z => nomatch z) fun _ z => nomatch z
def OwnS : Option Sl → Bool
  | some (.ow _) => true
  | some (.le _) => true
  | _ => false
@[simp] theorem OwnS_ow (d : D) : OwnS (some (.ow d)) = true := rfl
@[simp] theorem OwnS_le (d : D) : OwnS (some (.le d)) = true := rfl
@[simp] theorem OwnS_cl (d : D) : OwnS (some (.cl d)) = false := rfl
@[simp] theorem OwnS_bo (d : D) : OwnS (some (.bo d)) = false := rfl
@[simp] theorem OwnS_un : OwnS (some .un) = false := rfl
@[simp] theorem OwnS_none : OwnS none = false := rfl
/-- the addresses of own lists -/
def OS (σ : St) (ρ : Ev) (b : Addr) : Prop := ∃ i : Nat, OwnS ρ[i]? = true ∧ σ[i]? = some (some (V.ref b))
def Fb (F : Fc) (T : Fo) (σ : St) (ρ : Ev) (b : Addr) : Prop := F.B b ∨ T b ∨ OS σ ρ b
def BO (K : PySem.W.Frag) (F : Fc) (A : Fo) (H : Hp) (a : Addr) : D → Prop
  | .list ds => ∃ xs, ((Rd F.H0 a (.lst xs) ∧ ¬ F.L a) ∨ KLst K a xs) ∧ RDs K A H xs ds
  | .dict ks => ∃ kvs, F.H0 a = some (.dK kvs) ∧ ¬ F.L a ∧ RKs K A H kvs ks
  | _ => False
structure Rel (K : PySem.W.Frag) (F : Fc) (T : Fo) (H : Hp) (σ : St) (ρ : Ev) : Prop where
  len : ρ.length = σ.length
  cl : ∀ (i : Nat) d, ρ[i]? = some (.cl d) → ∃ v, σ[i]? = some (some v) ∧ RD K (Fb F T σ ρ) H v d
  bo : ∀ (i : Nat) d, ρ[i]? = some (.bo d) → ∃ a, σ[i]? = some (some (V.ref a)) ∧ BO K F (Fb F T σ ρ) H a d
  ow : ∀ (i : Nat) d, ρ[i]? = some (.ow d) → ∃ a, σ[i]? = some (some (V.ref a)) ∧ OB K (Fb F T σ ρ) H a d ∧ ¬ F.B a ∧ ¬ T a ∧ F.H0 a = none
  le : ∀ (i : Nat) d, ρ[i]? = some (.le d) → ∃ a, F.lt i = some a ∧ σ[i]? = some (some (V.ref a)) ∧ OB K (Fb F T σ ρ) H a d ∧ ¬ F.B a ∧ ¬ T a
  inj : ∀ (i j : Nat) b, OwnS ρ[i]? = true → σ[i]? = some (some (V.ref b)) → OwnS ρ[j]? = true → σ[j]? = some (some (V.ref b)) → i = j
  keep : ∀ b o, F.H0 b = some o → nTb o = true → ¬ F.L b → H b = some o
  dom : ∀ b, F.H0 b ≠ none → H b ≠ none
  tdom : ∀ b, F.B b ∨ T b → H b ≠ none
  tabs : LamX.Tabs F.tb H
section
variable {K : PySem.W.Frag} {F : Fc} {T T' : Fo} {H H' : Hp} {σ : St} {ρ ρ' : Ev}
theorem ownS_cases {s : Option Sl} (h : OwnS s = true) : ∃ d, s = some (.ow d) ∨ s = some (.le d) := by
  cases s with
  | none => cases h
  | some s => cases s <;> first | (cases h; done) | exact ⟨_, .inl rfl⟩ | exact ⟨_, .inr rfl⟩
theorem Rel.os (R : Rel K F T H σ ρ) {b : Addr} (h : OS σ ρ b) : ¬ F.B b ∧ ¬ T b ∧ ∃ o, H b = some o := by
  obtain ⟨i, h1, h2⟩ := h
  obtain ⟨d, e | e⟩ := ownS_cases h1
  · obtain ⟨a, q1, q2, q3, q4, _⟩ := R.ow i d e
    rw [h2] at q1; cases q1
    exact ⟨q3, q4, q2.at⟩
  · obtain ⟨a, _, q1, q2, q3, q4⟩ := R.le i d e
    rw [h2] at q1; cases q1
    exact ⟨q3, q4, q2.at⟩
theorem Rel.fbd (R : Rel K F T H σ ρ) {b : Addr} (h : Fb F T σ ρ b) : H b ≠ none := by
  rcases h with h | h | h
  · exact R.tdom b (.inl h)
  · exact R.tdom b (.inr h)
  · obtain ⟨_, _, o, e⟩ := R.os h
    rw [e]; exact fun z => nomatch z
theorem BO.mono {A A' : Fo} {a : Addr} {d : D} (h : BO K F A H a d) (l : Le A H A' H') : BO K F A' H' a d := by
  cases d <;> first
    | exact h.elim
    | (obtain ⟨xs, h, q⟩ := h; exact ⟨xs, h, RDs.mono l _ _ q⟩)
    | (obtain ⟨xs, h, n, q⟩ := h; exact ⟨xs, h, n, RKs.mono l _ _ q⟩)
theorem Rel.boRB (R : Rel K F T H σ ρ) {A : Fo} {a : Addr} {d : D} (h : BO K F A H a d) : RB K A H (.ref a) d := by
  cases d <;> first
    | exact h.elim
    | (obtain ⟨xs, h, q⟩ := h
       refine .ls rfl rfl ?_ q
       rcases h with ⟨h | ⟨o, h⟩, n⟩ | h
       · exact .inl (.inl (R.keep _ _ h rfl n))
       · exact .inl (.inr ⟨o, R.keep _ _ h rfl n⟩)
       · exact sqL_K h)
    | (obtain ⟨xs, h, n, q⟩ := h; exact .ob rfl ⟨xs, R.keep _ _ h rfl n, q⟩)
/-- the relation at another forbidden set, another heap: the own lists' contents stand -/
theorem Rel.to (R : Rel K F T H σ ρ) (l : Le (Fb F T σ ρ) H (Fb F T' σ ρ) H') (own : ∀ b, OS σ ρ b → ∀ o, H b = some o → H' b = some o)
    (nt : ∀ b, OS σ ρ b → ¬ T' b) (td : ∀ b, F.B b ∨ T' b → H' b ≠ none) (kp : ∀ b o, F.H0 b = some o → nTb o = true → ¬ F.L b → H b = some o → H' b = some o) (dm : ∀ b, H b ≠ none → H' b ≠ none) (tt : LamX.Tabs F.tb H → LamX.Tabs F.tb H') : Rel K F T' H' σ ρ := by
  have os : ∀ (i : Nat) a, OwnS ρ[i]? = true → σ[i]? = some (some (V.ref a)) → OS σ ρ a := fun i a h1 h2 => ⟨i, h1, h2⟩
  refine ⟨R.len, fun i d e => ?_, fun i d e => ?_, fun i d e => ?_, fun i d e => ?_, R.inj, fun b o h t n => kp b o h t n (R.keep b o h t n), fun b h => dm b (R.dom b h), td, tt R.tabs⟩
  · obtain ⟨v, q1, q2⟩ := R.cl i d e
    exact ⟨v, q1, RD.mono l _ _ q2⟩
  · obtain ⟨v, q1, q2⟩ := R.bo i d e
    exact ⟨v, q1, q2.mono l⟩
  · obtain ⟨a, q1, q2, q3, q4, q5⟩ := R.ow i d e
    have oa := os i a (by rw [e]; rfl) q1
    exact ⟨a, q1, q2.mono l (own a oa), q3, nt a oa, q5⟩
  · obtain ⟨a, q0, q1, q2, q3, q4⟩ := R.le i d e
    have oa := os i a (by rw [e]; rfl) q1
    exact ⟨a, q0, q1, q2.mono l (own a oa), q3, nt a oa⟩
/-- the heap grows -/
theorem Rel.grow (R : Rel K F T H σ ρ) (g : ∀ b o, H b = some o → H' b = some o) : Rel K F T H' σ ρ :=
  R.to (Le.same g) (fun _ _ => g _) (fun b h => (R.os h).2.1) (fun b h z => R.tdom b h (by
    cases q : H b with
    | none => rfl
    | some o => rw [g b o q] at z; cases z)) (fun b o _ _ _ h => g b o h) (fun b h z => h (by
    cases q : H b with
    | none => rfl
    | some o => rw [g b o q] at z; cases z)) fun z => LamX.Tabs.ext z g
theorem grow_dom (g : ∀ b o, H b = some o → H' b = some o) (b : Addr) (h : H b ≠ none) : H' b ≠ none := fun z => h (by
    cases q : H b with
    | none => rfl
    | some o => rw [g b o q] at z; cases z)
/-- less is forbidden -/
theorem Rel.less (R : Rel K F T H σ ρ) (h : ∀ b, T' b → T b) : Rel K F T' H σ ρ :=
  R.to (Le.less fun b z => z.elim .inl fun z => z.elim (fun z => .inr (.inl (h b z))) fun z => .inr (.inr z)) (fun _ _ _ q => q) (fun b q z => (R.os q).2.1 (h b z)) (fun b q => R.tdom b (q.imp id (h b))) (fun _ _ _ _ _ q => q) (fun _ q => q) id
/-- new objects are forbidden -/
theorem Rel.more (R : Rel K F T H σ ρ) (h : ∀ b, T' b → T b ∨ (H b = none ∧ H' b ≠ none)) (g : ∀ b o, H b = some o → H' b = some o) : Rel K F T' H' σ ρ := by
  refine R.to ⟨fun b o q _ _ => g b o q, fun b z => ?_, grow_dom g⟩ (fun _ _ => g _) (fun b q z => ?_) (fun b q => ?_) (fun b o _ _ _ q => g b o q) (grow_dom g) fun z => LamX.Tabs.ext z g
  · rcases z with z | z | z
    · exact .inl (.inl z)
    · exact (h b z).imp (fun z => .inr (.inl z)) fun z => z.1
    · exact .inl (.inr (.inr z))
  · rcases h b z with z | z
    · exact (R.os q).2.1 z
    · obtain ⟨_, _, o, e⟩ := R.os q
      rw [e] at z; cases z.1
  · rcases q with q | q
    · exact grow_dom g b (R.tdom b (.inl q))
    · rcases h b q with z | z
      · exact grow_dom g b (R.tdom b (.inr z))
      · exact z.2
structure Ext (σ : St) (ρ : Ev) (H : Hp) (σ' : St) (ρ' : Ev) (H' : Hp) : Prop where
  kept : ∀ b o, H b = some o → nTb o = true → ¬ OS σ ρ b → H' b = some o
  os : ∀ b, OS σ' ρ' b → OS σ ρ b ∨ H b = none
  dom : ∀ b, H b ≠ none → H' b ≠ none
theorem Ext.refl (σ : St) (ρ : Ev) (H : Hp) : Ext σ ρ H σ ρ H := ⟨fun _ _ h _ _ => h, fun _ h => .inl h, fun _ h => h⟩
theorem Ext.grow (g : ∀ b o, H b = some o → H' b = some o) : Ext σ ρ H σ ρ H' := ⟨fun b o h _ _ => g b o h, fun _ h => .inl h, grow_dom g⟩
theorem Ext.trans {σ1 σ2 : St} {ρ1 ρ2 : Ev} {H1 H2 : Hp} (a : Ext σ ρ H σ1 ρ1 H1) (b : Ext σ1 ρ1 H1 σ2 ρ2 H2) : Ext σ ρ H σ2 ρ2 H2 := by
  refine ⟨fun c o h t n => b.kept c o (a.kept c o h t n) t fun z => ?_, fun c h => ?_, fun c h => b.dom c (a.dom c h)⟩
  · rcases a.os c z with z | z
    · exact n z
    · rw [h] at z; cases z
  · rcases b.os c h with z | z
    · exact a.os c z
    · cases q : H c with
      | none => exact .inr rfl
      | some o => exact absurd z (a.dom c (by rw [q]; exact fun z => nomatch z))
theorem Ext.le {σ' : St} {P P' : Fo} (e : Ext σ ρ H σ' ρ' H') (h : ∀ b, P' b → P b ∨ H b = none) : Le (fun b => P b ∨ OS σ ρ b) H (fun b => P' b ∨ OS σ' ρ' b) H' := by
  refine ⟨fun b o q t n => e.kept b o q t fun z => n (.inr z), fun b z => ?_, e.dom⟩
  rcases z with z | z
  · exact (h b z).imp .inl id
  · exact (e.os b z).imp .inr id
theorem fb_iff (F : Fc) (T : Fo) (σ : St) (ρ : Ev) : Fb F T σ ρ = fun b => (F.B b ∨ T b) ∨ OS σ ρ b := by
  funext b
  exact propext (by unfold Fb; exact or_assoc.symm)
theorem Ext.fb {σ' : St} (e : Ext σ ρ H σ' ρ' H') (h : ∀ b, T' b → T b ∨ H b = none) : Le (Fb F T σ ρ) H (Fb F T' σ' ρ') H' := by
  rw [fb_iff, fb_iff]
  exact e.le fun b z => z.elim (fun z => .inl (.inl z)) fun z => (h b z).imp .inr id
def VOk (K : PySem.W.Frag) (F : Fc) (T : Fo) (H : Hp) (σ : St) (ρ : Ev) (v : V) : Op → Prop
  | .val d => RD K (Fb F T σ ρ) H v d
  | .fr d => ∃ a, v = .ref a ∧ T a ∧ OB K (Fb F T σ ρ) H a d ∧ ¬ F.B a ∧ F.H0 a = none
  | .sl i => σ[i]? = some (some v)
def TTf (T : Fo) (v : V) (op : Op) (b : Addr) : Prop := T b ∨ ∃ d, op = .fr d ∧ v = .ref b
structure Post (K : PySem.W.Frag) (F : Fc) (T : Fo) (H : Hp) (σ : St) (ρ : Ev) (op : Op) (ρ' : Ev) (v : V) (H' : Hp) : Prop where
  rel : Rel K F (TTf T v op) H' σ ρ'
  ext : Ext σ ρ H σ ρ' H'
  val : VOk K F (TTf T v op) H' σ ρ' v op
  new : ∀ d a, op = .fr d → v = .ref a → H a = none
theorem Post.tt {op : Op} {v : V} (p : Post K F T H σ ρ op ρ' v H') (b : Addr) (h : TTf T v op b) : T b ∨ H b = none := by
  rcases h with h | ⟨d, e1, e2⟩
  · exact .inl h
  · exact .inr (p.new d b e1 e2)
theorem VOk.rb (R : Rel K F T H σ ρ) {op : Op} {v : V} {d : D} (h : VOk K F T H σ ρ v op) (e : rd ρ op = some d) : RB K (Fb F T σ ρ) H v d := by
  cases op with
  | val d' => cases e; exact .rd h
  | fr d' =>
    cases e
    obtain ⟨a, e1, _, q, _⟩ := h
    exact .ob e1 q
  | sl i =>
    have h : σ[i]? = some (some v) := h
    have e : rdS ρ[i]? = some d := e
    cases q : ρ[i]? with
    | none => rw [q] at e; cases e
    | some s =>
      rw [q] at e
      cases s with
      | un => cases e
      | cl d' =>
        cases e
        obtain ⟨u, q1, q2⟩ := R.cl i d q
        rw [h] at q1; cases q1
        exact .rd q2
      | bo d' =>
        cases e
        obtain ⟨a, q1, q2⟩ := R.bo i d q
        rw [h] at q1; cases q1
        exact R.boRB q2
      | ow d' =>
        cases e
        obtain ⟨a, q1, q2, _⟩ := R.ow i d q
        rw [h] at q1; cases q1
        exact .ob rfl q2
      | le d' =>
        cases e
        obtain ⟨a, _, q1, q2, _⟩ := R.le i d q
        rw [h] at q1; cases q1
        exact .ob rfl q2
/-- a value stands behind what comes later -/
theorem VOk.ext {T1 T2 : Fo} {ρ1 ρ2 : Ev} {H1 H2 : Hp} {op : Op} {v : V} (h : VOk K F T1 H1 σ ρ1 v op) (R1 : Rel K F T1 H1 σ ρ1) (e : Ext σ ρ1 H1 σ ρ2 H2) (t : ∀ b, T1 b → T2 b) (n : ∀ b, T2 b → T1 b ∨ H1 b = none) :
    VOk K F T2 H2 σ ρ2 v op := by
  have l : Le (Fb F T1 σ ρ1) H1 (Fb F T2 σ ρ2) H2 := e.fb n
  cases op with
  | val d => exact RD.mono l _ _ h
  | fr d =>
    obtain ⟨a, e1, ta, q, nb, h0⟩ := h
    exact ⟨a, e1, t a ta, q.mono' l fun o ho t => e.kept a o ho t fun z => (R1.os z).2.1 ta, nb, h0⟩
  | sl i => exact h
/-- what a rule of values gives: the heap grows, the value is data or a new list -/
structure PR (K : PySem.W.Frag) (A : Fo) (H H' : Hp) (v : V) (op : Op) : Prop where
  grow : ∀ b o, H b = some o → H' b = some o
  val : match op with
    | .val d => RD K A H' v d
    | .fr d => ∃ a, v = .ref a ∧ H a = none ∧ OB K (fun b => A b ∨ b = a) H' a d
    | .sl _ => False
theorem Rel.h0none (R : Rel K F T H σ ρ) {a : Addr} (h : H a = none) : F.H0 a = none := by
  cases q : F.H0 a with
  | none => rfl
  | some o => exact absurd h (R.dom a (by rw [q]; exact fun z => nomatch z))
/-- the end of an evaluation by a rule of values -/
theorem fin_ {T2 : Fo} {ρ2 : Ev} {H2 H3 : Hp} {op : Op} {v : V} (R2 : Rel K F T2 H2 σ ρ2) (e : Ext σ ρ H σ ρ2 H2) (t : ∀ b, T b → T2 b) (p : PR K (Fb F T2 σ ρ2) H2 H3 v op) : Post K F T H σ ρ op ρ2 v H3 := by
  have Rt := R2.less t
  cases op with
  | val d =>
    have tt : ∀ b, TTf T v (.val d) b → T b := fun b h => h.elim id fun ⟨_, e, _⟩ => nomatch e
    refine ⟨(Rt.less tt).grow p.grow, e.trans (Ext.grow p.grow), ?_, fun _ _ e => nomatch e⟩
    exact RD.mono (Le.less fun b z => z.elim .inl fun z => z.elim (fun z => .inr (.inl (t b (tt b z)))) fun z => .inr (.inr z)) _ _ p.val
  | fr d =>
    obtain ⟨a, e1, hn, q⟩ := p.val
    subst e1
    have ha : H3 a ≠ none := by
      obtain ⟨o, h⟩ := q.at
      rw [h]; exact fun z => nomatch z
    have tt : ∀ b, TTf T (.ref a) (.fr d) b → T b ∨ b = a := fun b h => h.imp id fun ⟨_, _, e⟩ => by cases e; rfl
    have R3 : Rel K F (TTf T (.ref a) (.fr d)) H3 σ ρ2 := Rt.more (fun b h => (tt b h).imp id fun z => by subst z; exact ⟨hn, ha⟩) p.grow
    have n2 : ∀ b, F.B b → b ≠ a := fun b h z => R2.tdom b (.inl h) (z ▸ hn)
    refine ⟨R3, e.trans (Ext.grow p.grow), ⟨a, rfl, .inr ⟨d, rfl, rfl⟩, ?_, fun h => n2 a h rfl, R2.h0none hn⟩, fun _ b _ e2 => ?_⟩
    · -- the content: nothing of it is the list itself
      refine q.mono (Le.less fun b z => ?_) fun _ h => h
      rcases z with z | z | z
      · exact .inl (.inl z)
      · exact (tt b z).imp (fun z => .inr (.inl (t b z))) id
      · exact .inl (.inr (.inr z))
    · cases e2
      cases q2 : H a with
      | none => rfl
      | some o => exact absurd hn (e.dom a (by rw [q2]; exact fun z => nomatch z))
  | sl i => exact p.val.elim
end
end Vx
set_option maxHeartbeats 2000000
namespace Vx
open PySem PySem.Spec L2
section
variable {X : Cx}
theorem _root_.L2.PE.imp {e : Expr} {t t' : TE} (h : PE X e t) (i : ∀ σ H Q, t' σ H Q → t σ H Q) : PE X e t' := ⟨fun pins s σ H Q I q => h.run pins s σ H Q I (i _ _ _ q)⟩
theorem _root_.L2.PT.imp {e : Expr} {t t' : TT} (h : PT X e t) (i : ∀ σ H Q, t' σ H Q → t σ H Q) : PT X e t' := ⟨fun pins s σ H Q I q => h.run pins s σ H Q I (i _ _ _ q)⟩
theorem _root_.L2.PW.imp {e : Expr} {t t' : TT} (h : PW X e t) (i : ∀ σ H Q, t' σ H Q → t σ H Q) : PW X e t' := ⟨fun wh pins s σ H Q I q => h.run wh pins s σ H Q I (i _ _ _ q)⟩
theorem _root_.L2.PA.imp {e : List Expr} {t t' : TA} (h : PA X e t) (i : ∀ σ H Q, t' σ H Q → t σ H Q) : PA X e t' := ⟨fun p pins s σ H Q I q => h.run p pins s σ H Q I (i _ _ _ q)⟩
theorem _root_.L2.PS.imp {e : Stmt} {t t' : TS} (h : PS X e t) (i : ∀ D σ H, t' D σ H → t D σ H) : PS X e t' := ⟨fun pins s σ H D I q => h.run pins s σ H D I (i _ _ _ q)⟩
theorem _root_.L2.PSs.imp {e : List Stmt} {t t' : TS} (h : PSs X e t) (i : ∀ D σ H, t' D σ H → t D σ H) : PSs X e t' := ⟨fun pins s σ H D I q => h.run pins s σ H D I (i _ _ _ q)⟩
theorem _root_.L2.PG.imp {e : Expr} {t t' : TG} (h : PG X e t) (i : ∀ v σ H Q, t' v σ H Q → t v σ H Q) : PG X e t' := ⟨fun pins s σ H v u Q I r q => h.run pins s σ H v u Q I r (i _ _ _ _ q)⟩
theorem _root_.L2.PGs.imp {e : List Expr} {t t' : TGs} (h : PGs X e t) (i : ∀ v σ H Q, t' v σ H Q → t v σ H Q) : PGs X e t' := ⟨fun pins s σ H v u Q I r q => h.run pins s σ H v u Q I r (i _ _ _ _ q)⟩
theorem _root_.L2.PI.imp {tg e : Expr} {t t' : TI} (h : PI X tg e t) (i : ∀ σ H Q, t' σ H Q → t σ H Q) : PI X tg e t' := ⟨fun pins s σ H Q I q => h.run pins s σ H Q I (i _ _ _ q)⟩
theorem _root_.L2.PTs.imp {e : List Expr} {t t' : TT} (h : PTs X e t) (i : ∀ σ H Q, t' σ H Q → t σ H Q) : PTs X e t' := ⟨fun pins s σ H Q I q => h.run pins s σ H Q I (i _ _ _ q)⟩
theorem _root_.L2.PO.imp {e : Option Expr} {t t' : TO} (h : PO X e t) (i : ∀ σ H Q, t' σ H Q → t σ H Q) : PO X e t' := ⟨fun pins s σ H Q I q => h.run pins s σ H Q I (i _ _ _ q)⟩
end
abbrev noT : Fo := fun _ => False
section
variable (K : PySem.W.Frag) (F : Fc)
def ErP (T : Fo) (H : Hp) (σ : St) (ρ : Ev) (x : Er) (ρ' : Ev) : Prop := ∀ c dd H', Rel K F T H' σ ρ' → Ext σ ρ H σ ρ' H' → ErOk F.cn x c dd H' → F.W c dd σ H'
def GE (T : Fo) (H : Hp) (σ : St) (ρ : Ev) (Q : VK) : Rs Op → Prop
  | .ok op ρ' => ∀ v H', Post K F T H σ ρ op ρ' v H' → Q v H'
  | .er x ρ' => ErP K F T H σ ρ x ρ'
  | .no => False
def liftE (m : M Op) : TE := fun σ H Q => ∃ T ρ, Rel K F T H σ ρ ∧ GE K F T H σ ρ Q (m ρ)
def GT (T : Fo) (H : Hp) (σ : St) (ρ : Ev) (Q : Bool → Hp → Prop) : Rs Bool → Prop
  | .ok b ρ' => ∀ H', Rel K F T H' σ ρ' → Ext σ ρ H σ ρ' H' → Q b H'
  | .er x ρ' => ErP K F T H σ ρ x ρ'
  | .no => False
def liftT (m : M Bool) : TT := fun σ H Q => ∃ T ρ, Rel K F T H σ ρ ∧ GT K F T H σ ρ Q (m ρ)
/-- a value that is kept -/
def GK (T : Fo) (H : Hp) (σ : St) (ρ : Ev) (Q : VK) : Rs D → Prop
  | .ok d ρ' => ∀ v H', Rel K F T H' σ ρ' → Ext σ ρ H σ ρ' H' → RD K (Fb F T σ ρ') H' v d → Q v H'
  | .er x ρ' => ErP K F T H σ ρ x ρ'
  | .no => False
def liftK (m : M D) : TE := fun σ H Q => ∃ T ρ, Rel K F T H σ ρ ∧ GK K F T H σ ρ Q (m ρ)
def GKs (T : Fo) (H : Hp) (σ : St) (ρ : Ev) (Q : List V → Hp → Prop) : Rs (List D) → Prop
  | .ok ds ρ' => ∀ vs H', Rel K F T H' σ ρ' → Ext σ ρ H σ ρ' H' → RDs K (Fb F T σ ρ') H' vs ds → Q vs H'
  | .er x ρ' => ErP K F T H σ ρ x ρ'
  | .no => False
def liftKs (m : M (List D)) : TA := fun σ H Q => ∃ T ρ, Rel K F T H σ ρ ∧ GKs K F T H σ ρ Q (m ρ)
inductive VOks (T : Fo) (H : Hp) (σ : St) (ρ : Ev) : List V → List Op → Prop
  | nil : VOks T H σ ρ [] []
  | cons {v : V} {vs : List V} {x : Op} {xs : List Op} : VOk K F T H σ ρ v x → VOks T H σ ρ vs xs → VOks T H σ ρ (v :: vs) (x :: xs)
def GA (T : Fo) (H : Hp) (σ : St) (ρ : Ev) (Q : List V → Hp → Prop) : Rs (List Op) → Prop
  | .ok xs ρ' => ∀ T' vs H', (∀ b, T b → T' b) → (∀ b, T' b → T b ∨ H b = none) → Rel K F T' H' σ ρ' → Ext σ ρ H σ ρ' H' → VOks K F T' H' σ ρ' vs xs → Q vs H'
  | .er x ρ' => ErP K F T H σ ρ x ρ'
  | .no => False
def liftA (m : M (List Op)) : TA := fun σ H Q => ∃ T ρ, Rel K F T H σ ρ ∧ GA K F T H σ ρ Q (m ρ)
end
abbrev QE (X : Cx) (F : Fc) (e : Expr) (m : M Op) : Prop := PE X e (liftE X.K F m)
abbrev QT (X : Cx) (F : Fc) (e : Expr) (m : M Bool) : Prop := PT X e (liftT X.K F m)
abbrev QW (X : Cx) (F : Fc) (e : Expr) (m : M Bool) : Prop := PW X e (liftT X.K F m)
abbrev QK (X : Cx) (F : Fc) (e : Expr) (m : M D) : Prop := PE X e (liftK X.K F m)
abbrev QKs (X : Cx) (F : Fc) (es : List Expr) (m : M (List D)) : Prop := PA X es (liftKs X.K F m)
abbrev QA (X : Cx) (F : Fc) (es : List Expr) (m : M (List Op)) : Prop := PA X es (liftA X.K F m)
section
variable {K : PySem.W.Frag} {F : Fc} {T T' T1 : Fo} {H H' H1 : Hp} {σ : St} {ρ ρ' ρ1 : Ev}
theorem ErP.back {x : Er} (h : ErP K F T H σ ρ x ρ') (e : Ext σ ρ H σ ρ1 H1) (t : ∀ b, T b → T1 b) : ErP K F T1 H1 σ ρ1 x ρ' := fun c dd H' R e' k => h c dd H' (R.less t) (e.trans e') k
theorem VOks.ext {T1 T2 : Fo} {ρ1 ρ2 : Ev} {H1 H2 : Hp} (R1 : Rel K F T1 H1 σ ρ1) (e : Ext σ ρ1 H1 σ ρ2 H2) (t : ∀ b, T1 b → T2 b) (n : ∀ b, T2 b → T1 b ∨ H1 b = none) : ∀ {vs : List V} {xs : List Op}, VOks K F T1 H1 σ ρ1 vs xs → VOks K F T2 H2 σ ρ2 vs xs
  | _, _, .nil => .nil
  | _, _, .cons h q => .cons (h.ext R1 e t n) (VOks.ext R1 e t n q)
/-- read now -/
inductive RBs (K : PySem.W.Frag) (A : Fo) (H : Hp) : List V → List D → Prop
  | nil : RBs K A H [] []
  | cons {v : V} {vs : List V} {d : D} {ds : List D} : RB K A H v d → RBs K A H vs ds → RBs K A H (v :: vs) (d :: ds)
theorem VOks.rbs (R : Rel K F T H σ ρ) : ∀ {vs : List V} {xs : List Op} {ds : List D}, VOks K F T H σ ρ vs xs → rds ρ xs = some ds → RBs K (Fb F T σ ρ) H vs ds
  | _, _, _, .nil, e => by cases e; exact .nil
  | _, _, _, .cons (x := x) (xs := xs) h q, e => by
    have e : (rd ρ x).bind (fun a => (rds ρ xs).bind fun as => some (a :: as)) = some _ := e
    cases e1 : rd ρ x with
    | none => rw [e1] at e; cases e
    | some a =>
      rw [e1] at e
      cases e2 : rds ρ xs with
      | none =>
        have e : (rds ρ xs).bind (fun as => some (a :: as)) = some _ := e
        rw [e2] at e; cases e
      | some as =>
        have e : (rds ρ xs).bind (fun as => some (a :: as)) = some _ := e
        rw [e2] at e; cases e
        exact .cons (h.rb R e1) (VOks.rbs R q e2)
/-- an own list is shared from now on -/
theorem Rel.share (R : Rel K F T H σ ρ) {i : Nat} {d : D} {v : V} (e : ρ[i]? = some (.ow d)) (hv : σ[i]? = some (some v)) :
    Rel K F T H σ (ρ.set i (.cl d)) ∧ Ext σ ρ H σ (ρ.set i (.cl d)) H ∧ RD K (Fb F T σ (ρ.set i (.cl d))) H v d := by
  obtain ⟨a, q1, q2, q3, q4, q5⟩ := R.ow i d e
  rw [hv] at q1; cases q1
  have hi : i < ρ.length := (List.getElem?_eq_some_iff.mp e).1
  have ne : ∀ j : Nat, j ≠ i → (ρ.set i (.cl d))[j]? = ρ[j]? := fun j h => List.getElem?_set_ne (Ne.symm h)
  have ee : (ρ.set i (.cl d))[i]? = some (.cl d) := List.getElem?_set_self hi
  have os : ∀ b, OS σ (ρ.set i (.cl d)) b → OS σ ρ b ∧ b ≠ a := by
    rintro b ⟨j, h1, h2⟩
    by_cases hj : j = i
    · subst hj; rw [ee] at h1; cases h1
    · rw [ne j hj] at h1
      refine ⟨⟨j, h1, h2⟩, fun z => hj ?_⟩
      subst z
      exact R.inj j i b h1 h2 (by rw [e]; rfl) hv
  have fl : ∀ b, Fb F T σ (ρ.set i (.cl d)) b → Fb F T σ ρ b := fun b z => z.elim .inl fun z => z.elim (fun z => .inr (.inl z)) fun z => .inr (.inr (os b z).1)
  have na : ¬ Fb F T σ (ρ.set i (.cl d)) a := fun z => z.elim q3 fun z => z.elim q4 fun z => (os a z).2 rfl
  have l : Le (Fb F T σ ρ) H (Fb F T σ (ρ.set i (.cl d))) H := Le.less fl
  have rdv : RD K (Fb F T σ (ρ.set i (.cl d))) H (.ref a) d := (q2.mono l fun _ h => h).rd na
  refine ⟨⟨by rw [List.length_set]; exact R.len, fun j d' e' => ?_, fun j d' e' => ?_, fun j d' e' => ?_, fun j d' e' => ?_, fun j k b h1 h2 h3 h4 => ?_, R.keep, R.dom, R.tdom, R.tabs⟩, ⟨fun _ _ h _ _ => h, fun b h => .inl (os b h).1, fun _ h => h⟩, rdv⟩
  · by_cases hj : j = i
    · subst hj; rw [ee] at e'; cases e'
      exact ⟨_, hv, rdv⟩
    · rw [ne j hj] at e'
      obtain ⟨u, r1, r2⟩ := R.cl j d' e'
      exact ⟨u, r1, RD.mono l _ _ r2⟩
  · by_cases hj : j = i
    · subst hj; rw [ee] at e'; cases e'
    · rw [ne j hj] at e'
      obtain ⟨u, r1, r2⟩ := R.bo j d' e'
      exact ⟨u, r1, r2.mono l⟩
  · by_cases hj : j = i
    · subst hj; rw [ee] at e'; cases e'
    · rw [ne j hj] at e'
      obtain ⟨u, r1, r2, r3⟩ := R.ow j d' e'
      exact ⟨u, r1, r2.mono l (fun _ h => h), r3⟩
  · by_cases hj : j = i
    · subst hj; rw [ee] at e'; cases e'
    · rw [ne j hj] at e'
      obtain ⟨u, r0, r1, r2, r3⟩ := R.le j d' e'
      exact ⟨u, r0, r1, r2.mono l (fun _ h => h), r3⟩
  · have hj : j ≠ i := fun z => by subst z; rw [ee] at h1; cases h1
    have hk : k ≠ i := fun z => by subst z; rw [ee] at h3; cases h3
    rw [ne j hj] at h1
    rw [ne k hk] at h3
    exact R.inj j k b h1 h2 h3 h4
/-- behind an evaluation the value is kept -/
theorem Post.kp {op : Op} {v : V} {d : D} {ρ2 : Ev} (R : Rel K F T H σ ρ) (p : Post K F T H σ ρ op ρ' v H') (e : kp ρ' op = some (d, ρ2)) : Rel K F T H' σ ρ2 ∧ Ext σ ρ H σ ρ2 H' ∧ RD K (Fb F T σ ρ2) H' v d := by
  have tl : ∀ b, T b → TTf T v op b := fun b h => .inl h
  have Rl := p.rel.less tl
  cases op with
  | val d' =>
    cases e
    exact ⟨Rl, p.ext, RD.mono (Le.less fun b z => z.elim .inl fun z => z.elim (fun z => .inr (.inl (tl b z))) fun z => .inr (.inr z)) _ _ p.val⟩
  | fr d' =>
    cases e
    obtain ⟨a, e1, ta, q, nb, h0⟩ := p.val
    have hn := p.new _ a rfl e1
    refine ⟨Rl, p.ext, ?_⟩
    subst e1
    refine (q.mono (Le.less fun b z => z.elim .inl fun z => z.elim (fun z => .inr (.inl (tl b z))) fun z => .inr (.inr z)) fun _ h => h).rd fun z => ?_
    rcases z with z | z | z
    · exact nb z
    · exact R.tdom a (.inr z) hn
    · exact (p.rel.os z).2.1 ta
  | sl i =>
    have hv : σ[i]? = some (some v) := p.val
    have e : keepS i ρ' ρ'[i]? = some (d, ρ2) := e
    cases q : ρ'[i]? with
    | none => rw [q] at e; cases e
    | some s =>
      rw [q] at e
      cases s with
      | un => cases e
      | bo _ => cases e
      | le _ => cases e
      | cl d' =>
        cases e
        obtain ⟨u, q1, q2⟩ := Rl.cl i d q
        rw [hv] at q1; cases q1
        exact ⟨Rl, p.ext, q2⟩
      | ow d' =>
        cases e
        obtain ⟨r1, r2, r3⟩ := Rl.share q hv
        exact ⟨r1, p.ext.trans r2, r3⟩
end
section
variable {X : Cx} {F : Fc} {pos : Pos}
theorem ge_const {K : PySem.W.Frag} {T : Fo} {H : Hp} {σ : St} {ρ : Ev} {d : D} {v : V} {Q : VK} (R : Rel K F T H σ ρ) (h : GE K F T H σ ρ Q (mC d ρ)) (r : RD K (Fb F T σ ρ) H v d) : Q v H :=
  h v H (fin_ R (Ext.refl ..) (fun _ h => h) ⟨fun _ _ h => h, r⟩)
theorem qe_int {i : Int} {j} : QE X F (.Constant (.int i) j pos) (mC (.int i)) := pe_int.imp fun _ _ _ ⟨_, _, R, h⟩ => ge_const R h (.int i)
theorem qe_bl {b j} : QE X F (.Constant (.bool b) j pos) (mC (.bool b)) := pe_bl.imp fun _ _ _ ⟨_, _, R, h⟩ => ge_const R h (.bl b)
theorem qe_non {j} : QE X F (.Constant .none j pos) (mC .none) := pe_non.imp fun _ _ _ ⟨_, _, R, h⟩ => ge_const R h .non
theorem qe_str {x : Str} {j} : QE X F (.Constant (.str x) j pos) (mC (.str x)) := pe_str.imp fun _ _ _ ⟨_, _, R, h⟩ => ge_const R h (.str x)
theorem qe_glI {x : Str} {i : Int} (hg : Gl X x) (hm : ∃ t, X.mg x = some (.int i t)) (hd : (x == ("__debug__" : Str)) = false := by decide) : QE X F (.Name x pos) (mC (.int i)) := by
  obtain ⟨t, hm⟩ := hm
  exact (pe_glob (v := .int i) hg hm ⟨t, rfl⟩ hd).imp fun _ _ _ ⟨_, _, R, h⟩ => ge_const R h (.int i)
theorem qe_glS {x : Str} {i : Str} (hg : Gl X x) (hm : ∃ t, X.mg x = some (.str i t)) (hd : (x == ("__debug__" : Str)) = false := by decide) : QE X F (.Name x pos) (mC (.str i)) := by
  obtain ⟨t, hm⟩ := hm
  exact (pe_glob (v := .str i) hg hm ⟨t, rfl⟩ hd).imp fun _ _ _ ⟨_, _, R, h⟩ => ge_const R h (.str i)
theorem qv (i : Nat) {x : Str} (hN : X.N[i]? = some x := by rfl) (hv : Vis X.env.scope x := by first | exact Or.inl rfl | exact Or.inr (Or.inl rfl) | exact Or.inr (Or.inr rfl)) (hd : (x == ("__debug__" : Str)) = false := by decide)
    (hcd : (x == ("__classdict__" : Str)) = false := by decide) : QE X F (.Name x pos) (mV i) := by
  refine (pe_var hN hv hd hcd).imp fun σ H Q ⟨T, ρ, R, h⟩ => ?_
  have h : GE X.K F T H σ ρ Q (opt ρ (slV i ρ[i]?)) := h
  have sl : ∀ v, σ[i]? = some (some v) → Post X.K F T H σ ρ (.sl i) ρ v H := fun v e =>
    ⟨R.less (fun b z => z.elim id (fun ⟨_, e, _⟩ => (nomatch e))), Ext.refl .., e, fun _ _ e => (nomatch e)⟩
  cases q : ρ[i]? with
  | none => rw [q] at h; exact h.elim
  | some s =>
    rw [q] at h
    cases s with
    | un => exact h.elim
    | cl d =>
      obtain ⟨v, q1, q2⟩ := R.cl i d q
      exact ⟨v, q1, ge_const R h q2⟩
    | bo d =>
      obtain ⟨a, q1, q2⟩ := R.bo i d q
      exact ⟨_, q1, h _ _ (sl _ q1)⟩
    | ow d =>
      obtain ⟨a, q1, q2⟩ := R.ow i d q
      exact ⟨_, q1, h _ _ (sl _ q1)⟩
    | le d =>
      obtain ⟨a, _, q1, q2⟩ := R.le i d q
      exact ⟨_, q1, h _ _ (sl _ q1)⟩
end
def P1 (K : PySem.W.Frag) (r : V → Hp → VK → Prop) (f : D → Option Op) : Prop := ∀ (A : Fo) (H : Hp) x a op (Q : VK), (∀ b, A b → H b ≠ none) → RB K A H x a → f a = some op → (∀ v H', PR K A H H' v op → Q v H') → r x H Q
def P2 (K : PySem.W.Frag) (r : R2) (f : D → D → Option Op) : Prop := ∀ (A : Fo) (H : Hp) x y a b op (Q : VK), (∀ b, A b → H b ≠ none) → RB K A H x a → RB K A H y b → f a b = some op → (∀ v H', PR K A H H' v op → Q v H') → r x y H Q
def Pn (K : PySem.W.Frag) (r : List V → Hp → VK → Prop) (f : List D → Option Op) : Prop := ∀ (A : Fo) (H : Hp) xs as op (Q : VK), (∀ b, A b → H b ≠ none) → RBs K A H xs as → f as = some op → (∀ v H', PR K A H H' v op → Q v H') → r xs H Q
section
variable {K : PySem.W.Frag} {F : Fc} {ma mb : M Op} {σ : St} {H : Hp} {Q : VK}
theorem lift1 {r : V → Hp → VK → Prop} {f : D → Option Op} (hf : P1 K r f) (h : liftE K F (m1 f ma) σ H Q) : tUn r (liftE K F ma) σ H Q := by
  obtain ⟨T, ρ, R, h⟩ := h
  refine ⟨T, ρ, R, ?_⟩
  unfold m1 at h
  cases e : ma ρ with
  | no => rw [e] at h; exact h.elim
  | er x ρ' => rw [e] at h; exact h
  | ok x ρ1 =>
    rw [e] at h
    intro v H1 p
    have h : GE K F T H σ ρ Q (opt ρ1 ((rd ρ1 x).bind f)) := h
    cases e1 : rd ρ1 x with
    | none => rw [e1] at h; exact h.elim
    | some a =>
      rw [e1] at h
      have h : GE K F T H σ ρ Q (opt ρ1 (f a)) := h
      cases e2 : f a with
      | none => rw [e2] at h; exact h.elim
      | some op =>
        rw [e2] at h
        exact hf _ H1 v a op Q (fun _ z => p.rel.fbd z) (p.val.rb p.rel e1) e2 fun v' H' q => h v' H' (fin_ p.rel p.ext (fun _ z => .inl z) q)
theorem lift2 {r : R2} {f : D → D → Option Op} (hf : P2 K r f) (h : liftE K F (m2 f ma mb) σ H Q) : tOp r (liftE K F ma) (liftE K F mb) σ H Q := by
  obtain ⟨T, ρ, R, h⟩ := h
  refine ⟨T, ρ, R, ?_⟩
  unfold m2 at h
  cases e : ma ρ with
  | no => rw [e] at h; exact h.elim
  | er x ρ' => rw [e] at h; exact h
  | ok x ρ1 =>
    rw [e] at h
    intro v H1 p
    refine ⟨TTf T v x, ρ1, p.rel, ?_⟩
    have h : GE K F T H σ ρ Q ((mb ρ1).bind fun y ρ2 => opt ρ2 ((rd ρ2 x).bind fun a => (rd ρ2 y).bind fun b => f a b)) := h
    cases eb : mb ρ1 with
    | no => rw [eb] at h; exact h.elim
    | er z ρ' =>
      rw [eb] at h
      exact ErP.back (show ErP K F T H σ ρ z ρ' from h) p.ext fun _ z => .inl z
    | ok y ρ2 =>
      rw [eb] at h
      intro u H2 p2
      have vx : VOk K F (TTf (TTf T v x) u y) H2 σ ρ2 v x := p.val.ext p.rel p2.ext (fun _ z => .inl z) p2.tt
      have h : GE K F T H σ ρ Q (opt ρ2 ((rd ρ2 x).bind fun a => (rd ρ2 y).bind fun b => f a b)) := h
      cases e1 : rd ρ2 x with
      | none => rw [e1] at h; exact h.elim
      | some a =>
        rw [e1] at h
        have h : GE K F T H σ ρ Q (opt ρ2 ((rd ρ2 y).bind fun b => f a b)) := h
        cases e2 : rd ρ2 y with
        | none => rw [e2] at h; exact h.elim
        | some b =>
          rw [e2] at h
          have h : GE K F T H σ ρ Q (opt ρ2 (f a b)) := h
          cases e3 : f a b with
          | none => rw [e3] at h; exact h.elim
          | some op =>
            rw [e3] at h
            exact hf _ H2 v u a b op Q (fun _ z => p2.rel.fbd z) (vx.rb p2.rel e1) (p2.val.rb p2.rel e2) e3 fun v' H' q => h v' H' (fin_ p2.rel (p.ext.trans p2.ext) (fun _ z => .inl (.inl z)) q)
end
section
variable {X : Cx} {F : Fc} {a b : Expr} {ma mb : M Op} {pos : Pos}
theorem qe_op {op : Operator} {r : R2} {f : D → D → Option Op} (ho : OpR X (binaryOp op) r) (hf : P2 X.K r f) (ha : QE X F a ma) (hb : QE X F b mb) : QE X F (.BinOp a op b pos) (m2 f ma mb) := (pe_op ho ha hb).imp fun _ _ _ h => lift2 hf h
theorem qe_un {op : UnaryOp} {r : V → Hp → VK → Prop} {f : D → Option Op} (ho : UnR X (unaryOp op) r) (hf : P1 X.K r f) (ha : QE X F a ma) : QE X F (.UnaryOp op a pos) (m1 f ma) := (pe_un ho ha).imp fun _ _ _ h => lift1 hf h
theorem qe_cmp {op : CmpOp} {r : R2} {f : D → D → Option Op} (ho : OpR X (compareOp op) r) (hf : P2 X.K r f) (ha : QE X F a ma) (hb : QE X F b mb) (hm : behindInMarks op b = false) : QE X F (.Compare a [op] [b] pos) (m2 f ma mb) := (pe_cmpR ho ha hb hm).imp fun _ _ _ h => lift2 hf h
theorem qe_ix {r : R2} {f : D → D → Option Op} (hr : IxR X r) (hf : P2 X.K r f) (ha : QE X F a ma) (hb : QE X F b mb) (hs : PlainIx b) : QE X F (.Subscript a b pos) (m2 f ma mb) := (pe_ix hr ha hb hs).imp fun _ _ _ h => lift2 hf h
end
section
variable {X : Cx} {F : Fc} {e : Expr} {es : List Expr} {me : M Op} {mas : M (List Op)} {mks : M (List D)}
theorem qa_nil : QA X F [] aNil := pa_nil.imp fun σ H Q ⟨T, ρ, R, h⟩ => h T [] H (fun _ z => z) (fun _ z => .inl z) R (Ext.refl ..) .nil
theorem qa_cons (ha : QE X F e me) (hr : QA X F es mas) (hs : starEach (e :: es) X.env = (false, eval e X.env) :: starEach es X.env := by rfl) : QA X F (e :: es) (aCons me mas) := by
  refine (pa_cons ha hr hs).imp fun σ H Q ⟨T, ρ, R, h⟩ => ⟨T, ρ, R, ?_⟩
  unfold aCons at h
  cases e1 : me ρ with
  | no => rw [e1] at h; exact h.elim
  | er x ρ' => rw [e1] at h; exact h
  | ok x ρ1 =>
    rw [e1] at h
    intro v H1 p
    refine ⟨TTf T v x, ρ1, p.rel, ?_⟩
    have h : GA X.K F T H σ ρ Q ((mas ρ1).bind fun xs ρ2 => .ok (x :: xs) ρ2) := h
    cases e2 : mas ρ1 with
    | no => rw [e2] at h; exact h.elim
    | er z ρ' =>
      rw [e2] at h
      exact ErP.back (show ErP X.K F T H σ ρ z ρ' from h) p.ext fun _ z => .inl z
    | ok xs ρ2 =>
      rw [e2] at h
      intro T2 vs H2 t n R2 x2 q2
      refine h T2 (v :: vs) H2 (fun b z => t b (.inl z)) (fun b z => ?_) R2 (p.ext.trans x2) (.cons (p.val.ext p.rel x2 t n) q2)
      rcases n b z with z | z
      · exact p.tt b z
      · cases q : H b with
        | none => exact .inr rfl
        | some o => exact absurd z (p.ext.dom b (by rw [q]; exact fun z => nomatch z))
theorem liftK_ (h : PE X e (liftE X.K F me)) : QK X F e (mK me) := by
  refine h.imp fun σ H Q ⟨T, ρ, R, h⟩ => ⟨T, ρ, R, ?_⟩
  unfold mK at h
  cases e1 : me ρ with
  | no => rw [e1] at h; exact h.elim
  | er x ρ' => rw [e1] at h; exact h
  | ok x ρ1 =>
    rw [e1] at h
    intro v H1 p
    have h : GK X.K F T H σ ρ Q (optE (kp ρ1 x)) := h
    cases e2 : kp ρ1 x with
    | none => rw [e2] at h; exact h.elim
    | some q =>
      obtain ⟨d, ρ2⟩ := q
      rw [e2] at h
      obtain ⟨r1, r2, r3⟩ := p.kp R e2
      exact h v H1 r1 r2 r3
theorem qk_nil : QKs X F [] kNil := pa_nil.imp fun σ H Q ⟨T, ρ, R, h⟩ => h [] H R (Ext.refl ..) .nil
theorem qk_cons (ha : QE X F e me) (hr : QKs X F es mks) (hs : starEach (e :: es) X.env = (false, eval e X.env) :: starEach es X.env := by rfl) : QKs X F (e :: es) (kCons me mks) := by
  refine (pa_cons (liftK_ ha) hr hs).imp fun σ H Q ⟨T, ρ, R, h⟩ => ⟨T, ρ, R, ?_⟩
  unfold kCons at h
  cases e1 : mK me ρ with
  | no => rw [e1] at h; exact h.elim
  | er x ρ' => rw [e1] at h; exact h
  | ok d ρ1 =>
    rw [e1] at h
    intro v H1 R1 x1 q1
    refine ⟨T, ρ1, R1, ?_⟩
    have h : GKs X.K F T H σ ρ Q ((mks ρ1).bind fun xs ρ2 => .ok (d :: xs) ρ2) := h
    cases e2 : mks ρ1 with
    | no => rw [e2] at h; exact h.elim
    | er z ρ' =>
      rw [e2] at h
      exact ErP.back (show ErP X.K F T H σ ρ z ρ' from h) x1 fun _ z => z
    | ok ds ρ2 =>
      rw [e2] at h
      intro vs H2 R2 x2 q2
      exact h (v :: vs) H2 R2 (x1.trans x2) (.cons (RD.mono (x2.fb fun _ z => .inl z) _ _ q1) q2)
end
section
variable {X : Cx} {F : Fc} {es : List Expr} {mas : M (List Op)} {mks : M (List D)} {pos : Pos}
theorem upd_grow {H : Hp} {p : Addr} {o : HO} (h : H p = none) : ∀ b u, H b = some u → upd H p o b = some u := fun b u q => by rw [upd_ne (ne_of_none q h)]; exact q
theorem upd_le {A : Fo} {H : Hp} {p : Addr} {o : HO} (h : H p = none) : Le A H (fun b => A b ∨ b = p) (upd H p o) := ⟨fun b u q _ _ => upd_grow h b u q, fun b z => z.imp id fun z => by rw [z]; exact h, grow_dom (upd_grow h)⟩
theorem pr_lst {K : PySem.W.Frag} {A : Fo} {H : Hp} {p : Addr} {xs : List V} {ds : List D} (h : H p = none) (r : RDs K A H xs ds) : PR K A H (upd H p (.lst xs)) (.ref p) (.fr (.list ds)) :=
  ⟨upd_grow h, p, rfl, h, xs, upd_same, RDs.mono (upd_le h) _ _ r⟩
theorem pr_tup {K : PySem.W.Frag} {A : Fo} {H : Hp} {p : Addr} {xs : List V} {ds : List D} (h : H p = none) (hA : ∀ b, A b → H b ≠ none) (r : RDs K A H xs ds) : PR K A H (upd H p (.tup xs)) (.ref p) (.val (.tuple ds)) :=
  ⟨upd_grow h, .tupH (.inl upd_same) (fun z => hA p z h) (RDs.mono (Le.same (upd_grow h)) _ _ r)⟩
theorem pr_val {K : PySem.W.Frag} {A : Fo} {H : Hp} {v : V} {d : D} (r : RD K A H v d) : PR K A H H v (.val d) := ⟨fun _ _ h => h, r⟩
theorem qe_lst (h : QKs X F es mks) : QE X F (.List es pos) (mLst mks) := by
  refine (pe_lst h).imp fun σ H Q ⟨T, ρ, R, h⟩ => ⟨T, ρ, R, ?_⟩
  unfold mLst at h
  cases e1 : mks ρ with
  | no => rw [e1] at h; exact h.elim
  | er x ρ' => rw [e1] at h; exact h
  | ok ds ρ1 =>
    rw [e1] at h
    intro vs H1 R1 x1 q1
    have h : GE X.K F T H σ ρ Q (if ds.length ≤ sizeLine then .ok (.fr (.list ds)) ρ1 else .no) := h
    by_cases c : ds.length ≤ sizeLine
    · rw [if_pos c] at h
      exact ⟨by rw [q1.length]; exact c, fun p hp => h _ _ (fin_ R1 x1 (fun _ z => z) (pr_lst hp q1))⟩
    · rw [if_neg c] at h; exact h.elim
theorem qe_tup {k} (h : QKs X F es mks) : QE X F (.Tuple es k pos) (mTup mks) := by
  refine (pe_tup h).imp fun σ H Q ⟨T, ρ, R, h⟩ => ⟨T, ρ, R, ?_⟩
  unfold mTup at h
  cases e1 : mks ρ with
  | no => rw [e1] at h; exact h.elim
  | er x ρ' => rw [e1] at h; exact h
  | ok ds ρ1 =>
    rw [e1] at h
    intro vs H1 R1 x1 q1
    have h : GE X.K F T H σ ρ Q (if ds.length ≤ sizeLine then .ok (.val (.tuple ds)) ρ1 else .no) := h
    by_cases c : ds.length ≤ sizeLine
    · rw [if_pos c] at h
      exact ⟨by rw [q1.length]; exact c, fun p hp => h _ _ (fin_ R1 x1 (fun _ z => z) (pr_tup hp (fun b z => R1.fbd z) q1))⟩
    · rw [if_neg c] at h; exact h.elim
theorem liftB {r : List V → Hp → VK → Prop} {f : List D → Option Op} {K : PySem.W.Frag} {σ : St} {H : Hp} {Q : VK} (hf : Pn K r f) (h : liftE K F (mB f mas) σ H Q) : tCB r (liftA K F mas) σ H Q := by
  obtain ⟨T, ρ, R, h⟩ := h
  refine ⟨T, ρ, R, ?_⟩
  unfold mB at h
  cases e1 : mas ρ with
  | no => rw [e1] at h; exact h.elim
  | er x ρ' => rw [e1] at h; exact h
  | ok xs ρ1 =>
    rw [e1] at h
    intro T1 vs H1 t n R1 x1 q1
    have h : GE K F T H σ ρ Q (opt ρ1 ((rds ρ1 xs).bind f)) := h
    cases e2 : rds ρ1 xs with
    | none => rw [e2] at h; exact h.elim
    | some ds =>
      rw [e2] at h
      have h : GE K F T H σ ρ Q (opt ρ1 (f ds)) := h
      cases e3 : f ds with
      | none => rw [e3] at h; exact h.elim
      | some op =>
        rw [e3] at h
        exact hf _ H1 vs ds op Q (fun _ z => R1.fbd z) (q1.rbs R1 e2) e3 fun v' H' q => h v' H' (fin_ R1 x1 t q)
theorem qe_callB {x : Str} {id : String} {e : Expr} {r : List V → Hp → VK → Prop} {f : List D → Option Op} {p : Pos} (hc : CallR X (.builtin id) r) (hf : Pn X.K r f) (hg : Gl X x) (hm : X.mg x = none) (hv : bootBuiltins x = some (.builtin id)) (ha : QA X F (e :: es) mas) (hn : x ≠ "__name__" := by decide) (hdb : (x == ("__debug__" : Str)) = false := by decide)
    (he : starEach (e :: es) X.env = (false, eval e X.env) :: starEach es X.env := by rfl) (hpl : (backTo pos (starEach es X.env)).any (·.1) = false := by rfl) : QE X F (.Call (.Name x p) (e :: es) [] pos) (mB f mas) :=
  (pe_callB hc hg hm hv ha hn hdb he hpl).imp fun _ _ _ h => liftB hf h
theorem qe_callTy {x : Str} {ty : String} {e : Expr} {r : List V → Hp → VK → Prop} {f : List D → Option Op} {p : Pos} (hc : CallR X (.type ty) r) (hf : Pn X.K r f) (hg : Gl X x) (hm : X.mg x = none) (hv : bootBuiltins x = some (.type ty)) (ha : QA X F (e :: es) mas) (hn : x ≠ "__name__" := by decide) (hdb : (x == ("__debug__" : Str)) = false := by decide)
    (he : starEach (e :: es) X.env = (false, eval e X.env) :: starEach es X.env := by rfl) (hpl : (backTo pos (starEach es X.env)).any (·.1) = false := by rfl) : QE X F (.Call (.Name x p) (e :: es) [] pos) (mB f mas) :=
  (pe_callTy hc hg hm hv ha hn hdb he hpl).imp fun _ _ _ h => liftB hf h
end
end Vx
set_option maxHeartbeats 2000000
namespace Vx
open PySem PySem.Spec L2
def mChain (f g : D → D → Option Op) (ma mb mc : M Op) : M Op := fun ρ => (ma ρ).bind fun x ρ1 => (mb ρ1).bind fun y ρ2 => (opt ρ2 ((rd ρ2 x).bind fun a => (rd ρ2 y).bind fun b => (f a b).bind fun r => (rd ρ2 r).bind isB)).bind fun k ρ2 =>
  if k = true then (mc ρ2).bind fun z ρ3 => opt ρ3 ((rd ρ3 y).bind fun b => (rd ρ3 z).bind fun c => g b c) else .ok (.val (.bool false)) ρ2
section
variable {K : PySem.W.Frag} {F : Fc} {ma mb mc : M Op} {σ : St} {H : Hp} {Q : VK} {T : Fo} {ρ ρ1 ρ' : Ev} {H1 : Hp}
theorem Post.back {op : Op} {v : V} (p : Post K F T H σ ρ op ρ' v H1) : Rel K F T H1 σ ρ' := p.rel.less fun _ z => .inl z
theorem rd_const_bl {v : V} {k : Bool} {r : Op} (R : Rel K F T H σ ρ) (h : PR K (Fb F T σ ρ) H H1 v r) (e : rd ρ r = some (.bool k)) : v = .bl k ∧ Rel K F T H1 σ ρ := by
  refine ⟨?_, R.grow h.grow⟩
  cases r with
  | val d =>
    cases e
    have q := h.val
    cases q
    rfl
  | fr d =>
    cases e
    obtain ⟨a, _, _, q⟩ := h.val
    exact q.elim
  | sl i => exact h.val.elim
theorem liftTB {Q : Bool → Hp → Prop} (h : liftT K F (mT ma) σ H Q) : tB (liftE K F ma) σ H Q := by
  obtain ⟨T, ρ, R, h⟩ := h
  refine ⟨T, ρ, R, ?_⟩
  unfold mT at h
  cases e : ma ρ with
  | no => rw [e] at h; exact h.elim
  | er x ρ' => rw [e] at h; exact h
  | ok x ρ1 =>
    rw [e] at h
    intro v H1 p
    have h : GT K F T H σ ρ Q (opt ρ1 ((rd ρ1 x).bind isB)) := h
    cases e1 : rd ρ1 x with
    | none => rw [e1] at h; exact h.elim
    | some a =>
      rw [e1] at h
      have h : GT K F T H σ ρ Q (opt ρ1 (isB a)) := h
      cases a with
      | bool k => exact ⟨k, (p.val.rb p.rel e1).bl, h H1 p.back p.ext⟩
      | _ => exact h.elim
theorem liftTr {Q : Bool → Hp → Prop} (h : liftT K F (mTr ma) σ H Q) : liftE K F ma σ H fun x H' => ∃ k, TruV K x H' k ∧ Q k H' := by
  obtain ⟨T, ρ, R, h⟩ := h
  refine ⟨T, ρ, R, ?_⟩
  unfold mTr at h
  cases e : ma ρ with
  | no => rw [e] at h; exact h.elim
  | er x ρ' => rw [e] at h; exact h
  | ok x ρ1 =>
    rw [e] at h
    intro v H1 p
    have h : GT K F T H σ ρ Q (opt ρ1 ((rd ρ1 x).bind truD)) := h
    cases e1 : rd ρ1 x with
    | none => rw [e1] at h; exact h.elim
    | some a =>
      rw [e1] at h
      have h : GT K F T H σ ρ Q (opt ρ1 (truD a)) := h
      have rb := p.val.rb p.rel e1
      cases a with
      | none => cases rb.non; exact ⟨false, rfl, h H1 p.back p.ext⟩
      | bool k => cases rb.bl; exact ⟨k, rfl, h H1 p.back p.ext⟩
      | int i => cases rb.int; exact ⟨_, rfl, h H1 p.back p.ext⟩
      | str z =>
        cases rb.str
        have h : GT K F T H σ ρ Q (opt ρ1 (if z.length ≤ sizeLine then some (z.length != 0) else none)) := h
        by_cases c : z.length ≤ sizeLine
        · rw [if_pos c] at h
          refine ⟨_, ⟨c, rfl⟩, ?_⟩
          have e3 : ((z.length : Int) != 0) = (z.length != 0) := by
            cases z.length <;> rfl
          rw [e3]
          exact h H1 p.back p.ext
        · rw [if_neg c] at h; exact h.elim
      | list ds =>
        obtain ⟨a, xs, rfl, q1, q2⟩ := rb.lst
        refine ⟨_, .inl ⟨xs, q1, rfl⟩, ?_⟩
        have e3 : (!xs.isEmpty) = !ds.isEmpty := by
          have := q2.length
          cases xs <;> cases ds <;> first | rfl | (simp at this)
        rw [e3]
        exact h H1 p.back p.ext
      | tuple ds =>
        obtain ⟨a, xs, rfl, q1, q2⟩ := rb.tup
        refine ⟨_, .inr (.inl ⟨xs, q1, rfl⟩), ?_⟩
        have e3 : (!xs.isEmpty) = !ds.isEmpty := by
          have := q2.length
          cases xs <;> cases ds <;> first | rfl | (simp at this)
        rw [e3]
        exact h H1 p.back p.ext
      | dict _ => exact h.elim
theorem liftChain {r r' : R2} {f g : D → D → Option Op} (hf : P2 K r f) (hg : P2 K r' g) (h : liftE K F (mChain f g ma mb mc) σ H Q) : tChain r r' (liftE K F ma) (liftE K F mb) (liftE K F mc) σ H Q := by
  obtain ⟨T, ρ, R, h⟩ := h
  refine ⟨T, ρ, R, ?_⟩
  unfold mChain at h
  cases e : ma ρ with
  | no => rw [e] at h; exact h.elim
  | er x ρ' => rw [e] at h; exact h
  | ok x ρ1 =>
    rw [e] at h
    rw [Rs.bind_ok] at h
    intro v H1 p
    refine ⟨TTf T v x, ρ1, p.rel, ?_⟩
    cases eb : mb ρ1 with
    | no => rw [eb] at h; exact h.elim
    | er z ρ' =>
      rw [eb] at h
      exact ErP.back (show ErP K F T H σ ρ z ρ' from h) p.ext fun _ z => .inl z
    | ok y ρ2 =>
      rw [eb] at h
      rw [Rs.bind_ok] at h
      intro u H2 p2
      have vx : VOk K F (TTf (TTf T v x) u y) H2 σ ρ2 v x := p.val.ext p.rel p2.ext (fun _ z => .inl z) p2.tt
      cases e1 : rd ρ2 x with
      | none => rw [e1] at h; exact h.elim
      | some a =>
        cases e2 : rd ρ2 y with
        | none => rw [e1, e2] at h; exact h.elim
        | some b =>
          cases e3 : f a b with
          | none =>
            rw [e1, e2] at h
            have h : GE K F T H σ ρ Q ((opt ρ2 ((f a b).bind fun r => (rd ρ2 r).bind isB)).bind _) := h
            rw [e3] at h; exact h.elim
          | some op =>
            rw [e1, e2] at h
            have h : GE K F T H σ ρ Q ((opt ρ2 ((f a b).bind fun r => (rd ρ2 r).bind isB)).bind fun k ρ2 => if k = true then (mc ρ2).bind fun z ρ3 => opt ρ3 ((rd ρ3 y).bind fun b => (rd ρ3 z).bind fun c => g b c) else .ok (.val (.bool false)) ρ2) := h
            rw [e3] at h
            cases e4 : rd ρ2 op with
            | none =>
              have h : GE K F T H σ ρ Q ((opt ρ2 ((rd ρ2 op).bind isB)).bind _) := h
              rw [e4] at h; exact h.elim
            | some w =>
              have h : GE K F T H σ ρ Q ((opt ρ2 ((rd ρ2 op).bind isB)).bind fun k ρ2 => if k = true then (mc ρ2).bind fun z ρ3 => opt ρ3 ((rd ρ3 y).bind fun b => (rd ρ3 z).bind fun c => g b c) else .ok (.val (.bool false)) ρ2) := h
              rw [e4] at h
              cases w with
              | bool k =>
                have h : GE K F T H σ ρ Q (if k = true then (mc ρ2).bind fun z ρ3 => opt ρ3 ((rd ρ3 y).bind fun b => (rd ρ3 z).bind fun c => g b c) else .ok (.val (.bool false)) ρ2) := h
                refine hf _ H2 v u a b op _ (fun _ z => p2.rel.fbd z) (vx.rb p2.rel e1) (p2.val.rb p2.rel e2) e3 fun v' H3 q => ?_
                obtain ⟨ev, R3⟩ := rd_const_bl p2.rel q e4
                subst ev
                refine ⟨k, rfl, ?_⟩
                have x3 : Ext σ ρ2 H2 σ ρ2 H3 := Ext.grow q.grow
                have x03 : Ext σ ρ H σ ρ2 H3 := (p.ext.trans p2.ext).trans x3
                cases k with
                | false =>
                  rw [if_neg Bool.false_ne_true] at h ⊢
                  exact h _ H3 (fin_ R3 x03 (fun _ z => .inl (.inl z)) (pr_val (.bl false)))
                | true =>
                  rw [if_pos rfl] at h ⊢
                  refine ⟨_, ρ2, R3, ?_⟩
                  cases ec : mc ρ2 with
                  | no => rw [ec] at h; exact h.elim
                  | er z ρ' =>
                    rw [ec] at h
                    exact ErP.back (show ErP K F T H σ ρ z ρ' from h) x03 fun _ z => .inl (.inl z)
                  | ok z ρ4 =>
                    rw [ec] at h
                    rw [Rs.bind_ok] at h
                    intro w' H4 p4
                    have vy : VOk K F (TTf (TTf T v x) u y) H3 σ ρ2 u y := p2.val.ext p2.rel x3 (fun _ z => z) fun _ z => .inl z
                    have vy4 := vy.ext R3 p4.ext (fun _ z => .inl z) p4.tt
                    cases e5 : rd ρ4 y with
                    | none => rw [e5] at h; exact h.elim
                    | some b' =>
                      rw [e5] at h
                      have h : GE K F T H σ ρ Q (opt ρ4 ((rd ρ4 z).bind fun c => g b' c)) := h
                      cases e6 : rd ρ4 z with
                      | none => rw [e6] at h; exact h.elim
                      | some c =>
                        rw [e6] at h
                        have h : GE K F T H σ ρ Q (opt ρ4 (g b' c)) := h
                        cases e7 : g b' c with
                        | none => rw [e7] at h; exact h.elim
                        | some op' =>
                          rw [e7] at h
                          exact hg _ H4 u w' b' c op' Q (fun _ z => p4.rel.fbd z) (vy4.rb p4.rel e5) (p4.val.rb p4.rel e6) e7 fun v5 H5 q5 => h v5 H5 (fin_ p4.rel (x03.trans p4.ext) (fun _ z => .inl (.inl (.inl z))) q5)
              | _ => exact h.elim
end
section
variable {X : Cx} {F : Fc} {e a b c : Expr} {es rest : List Expr} {ma mb mc : M Op} {m u : M Bool} {pos : Pos}
theorem qt_val (h : QE X F e ma) (he : ∀ whole, isTrue e X.env whole = (do let v ← whole; standAt e.pos; holding [v] (truthy v)) := by intro _; rfl) : QT X F e (mT ma) := (pt_val h he).imp fun _ _ _ h => liftTB h
theorem qt_tru (h : QE X F e ma) (he : ∀ whole, isTrue e X.env whole = (do let v ← whole; standAt e.pos; holding [v] (truthy v)) := by intro _; rfl) : QT X F e (mTr ma) := (pt_truth h he).imp fun _ _ _ h => liftTr h
theorem qt_cmp {op : CmpOp} {r : R2} {f : D → D → Option Op} (ho : OpR X (compareOp op) r) (hf : P2 X.K r f) (ha : QE X F a ma) (hb : QE X F b mb) (hm : behindInMarks op b = false) : QT X F (.Compare a [op] [b] pos) (mT (m2 f ma mb)) := by
  refine (pt_cmpR ho ha hb hm).imp fun σ H Q h => ?_
  have q := liftTB h
  obtain ⟨T, ρ, R, q⟩ := q
  exact lift2 hf ⟨T, ρ, R, q⟩
theorem qe_chain {op op' : CmpOp} {r r' : R2} {f g : D → D → Option Op} (ho : OpR X (compareOp op) r) (ho' : OpR X (compareOp op') r') (hf : P2 X.K r f) (hg : P2 X.K r' g) (ha : QE X F a ma) (hb : QE X F b mb) (hc : QE X F c mc)
    (hm : lastMarks [op, op'] [b, c] = false := by with_unfolding_all rfl) : QE X F (.Compare a [op, op'] [b, c] pos) (mChain f g ma mb mc) := (pe_chain ho ho' ha hb hc hm).imp fun _ _ _ h => liftChain hf hg h
theorem qt_chain {op op' : CmpOp} {r r' : R2} {f g : D → D → Option Op} (ho : OpR X (compareOp op) r) (ho' : OpR X (compareOp op') r') (hf : P2 X.K r f) (hg : P2 X.K r' g) (ha : QE X F a ma) (hb : QE X F b mb) (hc : QE X F c mc)
    (hm : lastMarks [op, op'] [b, c] = false := by with_unfolding_all rfl) : QT X F (.Compare a [op, op'] [b, c] pos) (mT (mChain f g ma mb mc)) := by
  refine (pt_chain ho ho' ha hb hc hm).imp fun σ H Q h => ?_
  have q := liftTB h
  obtain ⟨T, ρ, R, q⟩ := q
  exact liftChain hf hg ⟨T, ρ, R, q⟩
theorem qt_not (h : QT X F a m) : QT X F (.UnaryOp .Not a pos) (mNot m) := by
  refine (pt_not h).imp fun σ H Q ⟨T, ρ, R, h⟩ => ⟨T, ρ, R, ?_⟩
  unfold mNot at h
  cases e : m ρ with
  | no => rw [e] at h; exact h.elim
  | er x ρ' => rw [e] at h; exact h
  | ok k ρ1 => rw [e] at h; exact h
theorem liftAnd {K : PySem.W.Frag} {σ : St} {H : Hp} {Q : Bool → Hp → Prop} (h : liftT K F (mAnd m u) σ H Q) : tAnd (liftT K F m) (liftT K F u) σ H Q := by
  obtain ⟨T, ρ, R, h⟩ := h
  refine ⟨T, ρ, R, ?_⟩
  unfold mAnd at h
  cases e : m ρ with
  | no => rw [e] at h; exact h.elim
  | er x ρ' => rw [e] at h; exact h
  | ok k ρ1 =>
    rw [e] at h
    rw [Rs.bind_ok] at h
    intro H1 R1 x1
    cases k with
    | false =>
      rw [if_neg Bool.false_ne_true] at h ⊢
      exact h H1 R1 x1
    | true =>
      rw [if_pos rfl] at h ⊢
      refine ⟨T, ρ1, R1, ?_⟩
      cases e2 : u ρ1 with
      | no => rw [e2] at h; exact h.elim
      | er z ρ' => rw [e2] at h; exact ErP.back (show ErP K F T H σ ρ z ρ' from h) x1 fun _ z => z
      | ok k2 ρ2 => rw [e2] at h; exact fun H2 R2 x2 => h H2 R2 (x1.trans x2)
theorem liftOr {K : PySem.W.Frag} {σ : St} {H : Hp} {Q : Bool → Hp → Prop} (h : liftT K F (mOr m u) σ H Q) : tOr (liftT K F m) (liftT K F u) σ H Q := by
  obtain ⟨T, ρ, R, h⟩ := h
  refine ⟨T, ρ, R, ?_⟩
  unfold mOr at h
  cases e : m ρ with
  | no => rw [e] at h; exact h.elim
  | er x ρ' => rw [e] at h; exact h
  | ok k ρ1 =>
    rw [e] at h
    rw [Rs.bind_ok] at h
    intro H1 R1 x1
    cases k with
    | true =>
      rw [if_pos rfl] at h ⊢
      exact h H1 R1 x1
    | false =>
      rw [if_neg Bool.false_ne_true] at h ⊢
      refine ⟨T, ρ1, R1, ?_⟩
      cases e2 : u ρ1 with
      | no => rw [e2] at h; exact h.elim
      | er z ρ' => rw [e2] at h; exact ErP.back (show ErP K F T H σ ρ z ρ' from h) x1 fun _ z => z
      | ok k2 ρ2 => rw [e2] at h; exact fun H2 R2 x2 => h H2 R2 (x1.trans x2)
theorem qw_and1 (h : QT X F a m) : QW X F (.BoolOp .And [a] pos) m := pw_and1 h
theorem qw_or1 (h : QT X F a m) : QW X F (.BoolOp .Or [a] pos) m := pw_or1 h
theorem qw_and (h : QT X F a m) (h2 : QW X F (.BoolOp .And (b :: rest) pos) u) : QW X F (.BoolOp .And (a :: b :: rest) pos) (mAnd m u) := (pw_and h h2).imp fun _ _ _ h => liftAnd h
theorem qw_or (h : QT X F a m) (h2 : QW X F (.BoolOp .Or (b :: rest) pos) u) : QW X F (.BoolOp .Or (a :: b :: rest) pos) (mOr m u) := (pw_or h h2).imp fun _ _ _ h => liftOr h
theorem qt_w (h : QW X F a m) : QT X F a m := h.pt
/-- the value of a bool -/
def mBv (ma : M Op) : M Bool := mT ma
theorem qe_one {op} (h : QE X F a ma) : QE X F (.BoolOp op [a] pos) ma := pe_one h
theorem qe_and (ha : QE X F a ma) (hb : QE X F (.BoolOp .And (b :: rest) pos) mb) : QE X F (.BoolOp .And (a :: b :: rest) pos) (mAndV (mT ma) mb) := by
  refine (pe_and ha hb).imp fun σ H Q ⟨T, ρ, R, h⟩ => ?_
  unfold mAndV at h
  have q : liftT X.K F (mT ma) σ H fun k H1 => if k = true then liftE X.K F mb σ H1 Q else Q (.bl false) H1 := by
    refine ⟨T, ρ, R, ?_⟩
    cases e : mT ma ρ with
    | no => rw [e] at h; exact h.elim
    | er x ρ' => rw [e] at h; exact h
    | ok k ρ1 =>
      rw [e] at h
      rw [Rs.bind_ok] at h
      intro H1 R1 x1
      cases k with
      | false =>
        rw [if_neg Bool.false_ne_true] at h ⊢
        exact h _ H1 (fin_ R1 x1 (fun _ z => z) (pr_val (.bl false)))
      | true =>
        rw [if_pos rfl] at h ⊢
        refine ⟨T, ρ1, R1, ?_⟩
        cases e2 : mb ρ1 with
        | no => rw [e2] at h; exact h.elim
        | er z ρ' => rw [e2] at h; exact ErP.back (show ErP X.K F T H σ ρ z ρ' from h) x1 fun _ z => z
        | ok y ρ2 =>
          rw [e2] at h
          intro v H2 p2
          exact h v H2 ⟨p2.rel, x1.trans p2.ext, p2.val, fun d a e1 e2 => by
            have := p2.new d a e1 e2
            cases q : H a with
            | none => rfl
            | some o => exact absurd this (x1.dom a (by rw [q]; exact fun z => nomatch z))⟩
  have q2 := liftTB q
  exact q2
theorem qe_or (ha : QE X F a ma) (hb : QE X F (.BoolOp .Or (b :: rest) pos) mb) : QE X F (.BoolOp .Or (a :: b :: rest) pos) (mOrV (mT ma) mb) := by
  refine (pe_or ha hb).imp fun σ H Q ⟨T, ρ, R, h⟩ => ?_
  unfold mOrV at h
  have q : liftT X.K F (mT ma) σ H fun k H1 => if k = true then Q (.bl true) H1 else liftE X.K F mb σ H1 Q := by
    refine ⟨T, ρ, R, ?_⟩
    cases e : mT ma ρ with
    | no => rw [e] at h; exact h.elim
    | er x ρ' => rw [e] at h; exact h
    | ok k ρ1 =>
      rw [e] at h
      rw [Rs.bind_ok] at h
      intro H1 R1 x1
      cases k with
      | true =>
        rw [if_pos rfl] at h ⊢
        exact h _ H1 (fin_ R1 x1 (fun _ z => z) (pr_val (.bl true)))
      | false =>
        rw [if_neg Bool.false_ne_true] at h ⊢
        refine ⟨T, ρ1, R1, ?_⟩
        cases e2 : mb ρ1 with
        | no => rw [e2] at h; exact h.elim
        | er z ρ' => rw [e2] at h; exact ErP.back (show ErP X.K F T H σ ρ z ρ' from h) x1 fun _ z => z
        | ok y ρ2 =>
          rw [e2] at h
          intro v H2 p2
          exact h v H2 ⟨p2.rel, x1.trans p2.ext, p2.val, fun d a e1 e2 => by
            have := p2.new d a e1 e2
            cases q : H a with
            | none => rfl
            | some o => exact absurd this (x1.dom a (by rw [q]; exact fun z => nomatch z))⟩
  exact liftTB q
theorem qe_not (ha : QE X F a ma) : QE X F (.UnaryOp .Not a pos) (mNotV (mT ma)) := by
  refine (pe_not ha).imp fun σ H Q ⟨T, ρ, R, h⟩ => ?_
  unfold mNotV at h
  have q : liftT X.K F (mT ma) σ H fun k H1 => Q (.bl (!k)) H1 := by
    refine ⟨T, ρ, R, ?_⟩
    cases e : mT ma ρ with
    | no => rw [e] at h; exact h.elim
    | er x ρ' => rw [e] at h; exact h
    | ok k ρ1 =>
      rw [e] at h
      exact fun H1 R1 x1 => h _ H1 (fin_ R1 x1 (fun _ z => z) (pr_val (.bl _)))
  exact liftTB q
theorem qe_if (hc : QT X F c m) (ha : QE X F a ma) (hb : QE X F b mb) : QE X F (.IfExp c a b pos) (mIf m ma mb) := by
  refine (pe_ifExp hc ha hb).imp fun σ H Q ⟨T, ρ, R, h⟩ => ⟨T, ρ, R, ?_⟩
  unfold mIf at h
  cases e : m ρ with
  | no => rw [e] at h; exact h.elim
  | er x ρ' => rw [e] at h; exact h
  | ok k ρ1 =>
    rw [e] at h
    rw [Rs.bind_ok] at h
    intro H1 R1 x1
    have go : ∀ mx : M Op, GE X.K F T H σ ρ Q (mx ρ1) → liftE X.K F mx σ H1 Q := fun mx h => by
      refine ⟨T, ρ1, R1, ?_⟩
      cases e2 : mx ρ1 with
      | no => rw [e2] at h; exact h.elim
      | er z ρ' => rw [e2] at h; exact ErP.back (show ErP X.K F T H σ ρ z ρ' from h) x1 fun _ z => z
      | ok y ρ2 =>
        rw [e2] at h
        intro v H2 p2
        exact h v H2 ⟨p2.rel, x1.trans p2.ext, p2.val, fun d a e1 e2 => by
          have := p2.new d a e1 e2
          cases q : H a with
          | none => rfl
          | some o => exact absurd this (x1.dom a (by rw [q]; exact fun z => nomatch z))⟩
    cases k with
    | false =>
      rw [if_neg Bool.false_ne_true] at h ⊢
      exact go _ h
    | true =>
      rw [if_pos rfl] at h ⊢
      exact go _ h
end
end Vx
set_option maxHeartbeats 2000000
namespace Vx
open PySem PySem.Spec L2
section
variable {K : PySem.W.Frag} {F : Fc} {T T' : Fo} {H H' : Hp} {σ : St} {ρ ρ' : Ev}
theorem free_len {ρ : Ev} {i : Nat} (h : free ρ[i]? = true) : i < ρ.length := by
  cases q : ρ[i]? with
  | none => rw [q] at h; cases h
  | some s => exact (List.getElem?_eq_some_iff.mp q).1
theorem free_le {ρ : Ev} {i : Nat} (h : free ρ[i]? = true) (d : D) : ρ[i]? ≠ some (.le d) := fun e => by rw [e] at h; cases h
/-- own lists behind a store of what is none -/
theorem os_set {i : Nat} {s : Sl} {o : Option V} (hs : OwnS (some s) = false) (hi : i < ρ.length) {b : Addr} (h : OS (σ.set i o) (ρ.set i s) b) : OS σ ρ b ∧ ∃ j : Nat, j ≠ i ∧ OwnS ρ[j]? = true ∧ σ[j]? = some (some (V.ref b)) := by
  obtain ⟨j, h1, h2⟩ := h
  by_cases hj : j = i
  · subst hj
    rw [List.getElem?_set_self hi] at h1
    rw [hs] at h1; cases h1
  · rw [List.getElem?_set_ne (Ne.symm hj)] at h1 h2
    exact ⟨⟨j, h1, h2⟩, j, hj, h1, h2⟩
/-- a slot gets data -/
theorem Rel.setCl (R : Rel K F T H σ ρ) {i : Nat} {v : V} {d : D} (hf : free ρ[i]? = true) (r : RD K (Fb F T σ ρ) H v d) :
    Rel K F T H (σ.set i (some v)) (ρ.set i (.cl d)) ∧ Ext σ ρ H (σ.set i (some v)) (ρ.set i (.cl d)) H := by
  have hi := free_len hf
  have hσ : i < σ.length := by rw [← R.len]; exact hi
  have os := fun b (h : OS (σ.set i (some v)) (ρ.set i (.cl d)) b) => os_set (σ := σ) (s := .cl d) rfl hi h
  have fl : ∀ b, Fb F T (σ.set i (some v)) (ρ.set i (.cl d)) b → Fb F T σ ρ b := fun b z => z.elim .inl fun z => z.elim (fun z => .inr (.inl z)) fun z => .inr (.inr (os b z).1)
  have l : Le (Fb F T σ ρ) H (Fb F T (σ.set i (some v)) (ρ.set i (.cl d))) H := Le.less fl
  have e1 : ∀ j : Nat, j ≠ i → (ρ.set i (.cl d))[j]? = ρ[j]? := fun j h => List.getElem?_set_ne (Ne.symm h)
  have e2 : ∀ j : Nat, j ≠ i → (σ.set i (some v))[j]? = σ[j]? := fun j h => List.getElem?_set_ne (Ne.symm h)
  have s1 : (ρ.set i (.cl d))[i]? = some (.cl d) := List.getElem?_set_self hi
  have s2 : (σ.set i (some v))[i]? = some (some v) := List.getElem?_set_self hσ
  refine ⟨⟨by rw [List.length_set, List.length_set]; exact R.len, fun j d' e => ?_, fun j d' e => ?_, fun j d' e => ?_, fun j d' e => ?_, fun j k b h1 h2 h3 h4 => ?_, R.keep, R.dom, R.tdom, R.tabs⟩, ⟨fun _ _ h _ _ => h, fun b h => .inl (os b h).1, fun _ h => h⟩⟩
  · by_cases hj : j = i
    · subst hj; rw [s1] at e; cases e
      exact ⟨v, s2, RD.mono l _ _ r⟩
    · rw [e1 j hj] at e; rw [e2 j hj]
      obtain ⟨u, q1, q2⟩ := R.cl j d' e
      exact ⟨u, q1, RD.mono l _ _ q2⟩
  · by_cases hj : j = i
    · subst hj; rw [s1] at e; cases e
    · rw [e1 j hj] at e; rw [e2 j hj]
      obtain ⟨u, q1, q2⟩ := R.bo j d' e
      exact ⟨u, q1, q2.mono l⟩
  · by_cases hj : j = i
    · subst hj; rw [s1] at e; cases e
    · rw [e1 j hj] at e; rw [e2 j hj]
      obtain ⟨u, q1, q2, q3⟩ := R.ow j d' e
      exact ⟨u, q1, q2.mono l (fun _ h => h), q3⟩
  · by_cases hj : j = i
    · subst hj; rw [s1] at e; cases e
    · rw [e1 j hj] at e; rw [e2 j hj]
      obtain ⟨u, q0, q1, q2, q3⟩ := R.le j d' e
      exact ⟨u, q0, q1, q2.mono l (fun _ h => h), q3⟩
  · have hj : j ≠ i := fun z => by subst z; rw [s1] at h1; cases h1
    have hk : k ≠ i := fun z => by subst z; rw [s1] at h3; cases h3
    rw [e1 j hj] at h1; rw [e2 j hj] at h2
    rw [e1 k hk] at h3; rw [e2 k hk] at h4
    exact R.inj j k b h1 h2 h3 h4
/-- a slot gets a new list -/
theorem Rel.setOw {i : Nat} {v : V} {d : D} (R : Rel K F T' H σ ρ) (hf : free ρ[i]? = true) {a : Addr} (ev : v = .ref a) (ht : ∀ b, T' b ↔ T b ∨ b = a) (nt : ¬ T a) (q : OB K (Fb F T' σ ρ) H a d) (nb : ¬ F.B a) (h0 : F.H0 a = none) :
    Rel K F T H (σ.set i (some v)) (ρ.set i (.ow d)) ∧ ∀ b, OS (σ.set i (some v)) (ρ.set i (.ow d)) b → OS σ ρ b ∨ b = a := by
  subst ev
  have hi := free_len hf
  have hσ : i < σ.length := by rw [← R.len]; exact hi
  have e1 : ∀ j : Nat, j ≠ i → (ρ.set i (.ow d))[j]? = ρ[j]? := fun j h => List.getElem?_set_ne (Ne.symm h)
  have e2 : ∀ j : Nat, j ≠ i → (σ.set i (some (.ref a)))[j]? = σ[j]? := fun j h => List.getElem?_set_ne (Ne.symm h)
  have s1 : (ρ.set i (.ow d))[i]? = some (.ow d) := List.getElem?_set_self hi
  have s2 : (σ.set i (some (V.ref a)))[i]? = some (some (V.ref a)) := List.getElem?_set_self hσ
  have os : ∀ b, OS (σ.set i (some (.ref a))) (ρ.set i (.ow d)) b → OS σ ρ b ∨ b = a := by
    rintro b ⟨j, h1, h2⟩
    by_cases hj : j = i
    · subst hj; rw [s2] at h2; cases h2; exact .inr rfl
    · rw [e1 j hj] at h1; rw [e2 j hj] at h2
      exact .inl ⟨j, h1, h2⟩
  have na : ¬ OS σ ρ a := fun z => (R.os z).2.1 ((ht a).mpr (.inr rfl))
  have fl : ∀ b, Fb F T (σ.set i (some (.ref a))) (ρ.set i (.ow d)) b → Fb F T' σ ρ b := fun b z => z.elim .inl fun z => z.elim (fun z => .inr (.inl ((ht b).mpr (.inl z)))) fun z => (os b z).elim (fun z => .inr (.inr z)) fun z => .inr (.inl ((ht b).mpr (.inr z)))
  have l : Le (Fb F T' σ ρ) H (Fb F T (σ.set i (some (.ref a))) (ρ.set i (.ow d))) H := Le.less fl
  refine ⟨⟨by rw [List.length_set, List.length_set]; exact R.len, fun j d' e => ?_, fun j d' e => ?_, fun j d' e => ?_, fun j d' e => ?_, fun j k b h1 h2 h3 h4 => ?_, R.keep, R.dom, fun b h => R.tdom b (h.imp id fun z => (ht b).mpr (.inl z)), R.tabs⟩, os⟩
  · by_cases hj : j = i
    · subst hj; rw [s1] at e; cases e
    · rw [e1 j hj] at e; rw [e2 j hj]
      obtain ⟨u, q1, q2⟩ := R.cl j d' e
      exact ⟨u, q1, RD.mono l _ _ q2⟩
  · by_cases hj : j = i
    · subst hj; rw [s1] at e; cases e
    · rw [e1 j hj] at e; rw [e2 j hj]
      obtain ⟨u, q1, q2⟩ := R.bo j d' e
      exact ⟨u, q1, q2.mono l⟩
  · by_cases hj : j = i
    · subst hj; rw [s1] at e; cases e
      exact ⟨a, s2, q.mono l (fun _ h => h), nb, nt, h0⟩
    · rw [e1 j hj] at e; rw [e2 j hj]
      obtain ⟨u, q1, q2, q3, q4, q5⟩ := R.ow j d' e
      exact ⟨u, q1, q2.mono l (fun _ h => h), q3, fun z => q4 ((ht u).mpr (.inl z)), q5⟩
  · by_cases hj : j = i
    · subst hj; rw [s1] at e; cases e
    · rw [e1 j hj] at e; rw [e2 j hj]
      obtain ⟨u, q0, q1, q2, q3, q4⟩ := R.le j d' e
      exact ⟨u, q0, q1, q2.mono l (fun _ h => h), q3, fun z => q4 ((ht u).mpr (.inl z))⟩
  · by_cases hj : j = i
    · by_cases hk : k = i
      · rw [hj, hk]
      · subst hj
        rw [s2] at h2; cases h2
        rw [e1 k hk] at h3; rw [e2 k hk] at h4
        exact absurd ⟨k, h3, h4⟩ na
    · rw [e1 j hj] at h1; rw [e2 j hj] at h2
      by_cases hk : k = i
      · subst hk
        rw [s2] at h4; cases h4
        exact absurd ⟨j, h1, h2⟩ na
      · rw [e1 k hk] at h3; rw [e2 k hk] at h4
        exact R.inj j k b h1 h2 h3 h4
/-- a value is stored -/
theorem Post.store {op : Op} {v : V} {i : Nat} {ρ2 : Ev} (R : Rel K F T H σ ρ) (p : Post K F T H σ ρ op ρ' v H') (e : stO i ρ' op = some ρ2) : Rel K F T H' (σ.set i (some v)) ρ2 ∧ Ext σ ρ H (σ.set i (some v)) ρ2 H' := by
  cases op with
  | val d =>
    have e : (if free ρ'[i]? then some (ρ'.set i (.cl d)) else none) = some ρ2 := e
    by_cases c : free ρ'[i]? = true
    · rw [if_pos c] at e; cases e
      have h := p.kp R (show Vx.kp ρ' (.val d) = some (d, ρ') from rfl)
      obtain ⟨r1, r2⟩ := h.1.setCl c h.2.2
      exact ⟨r1, p.ext.trans r2⟩
    · rw [if_neg c] at e; cases e
  | fr d =>
    have e : (if free ρ'[i]? then some (ρ'.set i (.ow d)) else none) = some ρ2 := e
    by_cases c : free ρ'[i]? = true
    · rw [if_pos c] at e; cases e
      obtain ⟨a, ev, ta, q, nb, h0⟩ := p.val
      have hn := p.new d a rfl ev
      have ht : ∀ b, TTf T v (.fr d) b ↔ T b ∨ b = a := fun b => ⟨fun z => z.imp id fun ⟨_, _, z⟩ => by rw [ev] at z; cases z; rfl, fun z => z.imp id fun z => ⟨d, rfl, by rw [z]; exact ev⟩⟩
      obtain ⟨r1, r2⟩ := p.rel.setOw c ev ht (fun z => R.tdom a (.inr z) hn) q nb h0
      refine ⟨r1, p.ext.kept, fun b z => ?_, p.ext.dom⟩
      rcases r2 b z with z | z
      · exact p.ext.os b z
      · rw [z]; exact .inr hn
    · rw [if_neg c] at e; cases e
  | sl j =>
    have e : (if free ρ'[i]? then (keepS j ρ' ρ'[j]?).bind fun p => some (p.2.set i (.cl p.1)) else none) = some ρ2 := e
    by_cases c : free ρ'[i]? = true
    · rw [if_pos c] at e
      cases q : keepS j ρ' ρ'[j]? with
      | none => rw [q] at e; cases e
      | some w =>
        obtain ⟨d, ρ3⟩ := w
        rw [q] at e; cases e
        have h := p.kp R (show Vx.kp ρ' (.sl j) = some (d, ρ3) from q)
        have c3 : free ρ3[i]? = true := by
          cases q2 : ρ'[j]? with
          | none => rw [q2] at q; cases q
          | some s =>
            rw [q2] at q
            cases s with
            | un => cases q
            | bo _ => cases q
            | le _ => cases q
            | cl _ => cases q; exact c
            | ow d' =>
              cases q
              by_cases hij : j = i
              · subst hij
                rw [List.getElem?_set_self (free_len c)]; rfl
              · rw [List.getElem?_set_ne hij]; exact c
        obtain ⟨r1, r2⟩ := h.1.setCl c3 h.2.2
        exact ⟨r1, h.2.1.trans r2⟩
    · rw [if_neg c] at e; cases e
end
section
variable (K : PySem.W.Frag) (F : Fc)
def ErS (H : Hp) (σ : St) (ρ : Ev) (x : Er) (ρ' : Ev) : Prop := ∀ c dd σ' H', Rel K F noT H' σ' ρ' → Ext σ ρ H σ' ρ' H' → ErOk F.cn x c dd H' → F.W c dd σ' H'
structure PostR (H : Hp) (σ : St) (ρ : Ev) (op : Op) (σ' : St) (ρ' : Ev) (v : V) (H' : Hp) : Prop where
  rel : Rel K F (TTf noT v op) H' σ' ρ'
  ext : Ext σ ρ H σ' ρ' H'
  val : VOk K F (TTf noT v op) H' σ' ρ' v op
  new : ∀ d a, op = .fr d → v = .ref a → H a = none
def GS (H : Hp) (σ : St) (ρ : Ev) (D : Ends) : Rs Fl → Prop
  | .ok .nx ρ' => ∀ σ' H', Rel K F noT H' σ' ρ' → Ext σ ρ H σ' ρ' H' → D.nx σ' H'
  | .ok .bk ρ' => ∀ σ' H', Rel K F noT H' σ' ρ' → Ext σ ρ H σ' ρ' H' → D.bk σ' H'
  | .ok .ct ρ' => ∀ σ' H', Rel K F noT H' σ' ρ' → Ext σ ρ H σ' ρ' H' → D.ct σ' H'
  | .ok (.rt op) ρ' => ∀ σ' v H', PostR K F H σ ρ op σ' ρ' v H' → D.rt v H'
  | .er x ρ' => ErS K F H σ ρ x ρ'
  | .no => False
def liftS (m : M Fl) : TS := fun D σ H => ∃ ρ, Rel K F noT H σ ρ ∧ GS K F H σ ρ D (m ρ)
end
abbrev QS (X : Cx) (F : Fc) (st : Stmt) (m : M Fl) : Prop := PS X st (liftS X.K F m)
abbrev QSs (X : Cx) (F : Fc) (st : List Stmt) (m : M Fl) : Prop := PSs X st (liftS X.K F m)
section
variable {K : PySem.W.Frag} {F : Fc} {H H1 : Hp} {σ σ1 : St} {ρ ρ1 ρ' : Ev}
/-- an error in an expression -/
theorem ErS.toP {x : Er} (h : ErS K F H σ ρ x ρ') : ErP K F noT H σ ρ x ρ' := fun c dd H' R e k => h c dd σ H' R e k
theorem ErS.back {x : Er} (h : ErS K F H σ ρ x ρ') (e : Ext σ ρ H σ1 ρ1 H1) : ErS K F H1 σ1 ρ1 x ρ' := fun c dd σ' H' R e' k => h c dd σ' H' R (e.trans e') k
theorem PostR.back {op : Op} {σ' : St} {v : V} {H' : Hp} (p : PostR K F H1 σ1 ρ1 op σ' ρ' v H') (e : Ext σ ρ H σ1 ρ1 H1) : PostR K F H σ ρ op σ' ρ' v H' :=
  ⟨p.rel, e.trans p.ext, p.val, fun d a e1 e2 => by
    have := p.new d a e1 e2
    cases q : H a with
    | none => rfl
    | some o => exact absurd this (e.dom a (by rw [q]; exact fun z => nomatch z))⟩
theorem GS.back {D : Ends} {r : Rs Fl} (h : GS K F H σ ρ D r) (e : Ext σ ρ H σ1 ρ1 H1) : GS K F H1 σ1 ρ1 D r := by
  cases r with
  | no => exact h
  | er x ρ' => exact ErS.back h e
  | ok f ρ' =>
    cases f with
    | nx => exact fun σ' H' R e' => h σ' H' R (e.trans e')
    | bk => exact fun σ' H' R e' => h σ' H' R (e.trans e')
    | ct => exact fun σ' H' R e' => h σ' H' R (e.trans e')
    | rt op => exact fun σ' v H' p => h σ' v H' (p.back e)
/-- the three ways on, the return: another end -/
theorem GS.ends {D D' : Ends} {r : Rs Fl} (h : GS K F H σ ρ D r) (h1 : ∀ ρ', r = .ok .nx ρ' → (∀ σ' H', Rel K F noT H' σ' ρ' → Ext σ ρ H σ' ρ' H' → D.nx σ' H') → ∀ σ' H', Rel K F noT H' σ' ρ' → Ext σ ρ H σ' ρ' H' → D'.nx σ' H')
    (h2 : ∀ σ' H', D.bk σ' H' → D'.bk σ' H') (h3 : ∀ σ' H', D.ct σ' H' → D'.ct σ' H') (h4 : ∀ v H', D.rt v H' → D'.rt v H') : GS K F H σ ρ D' r := by
  cases r with
  | no => exact h
  | er x ρ' => exact h
  | ok f ρ' =>
    cases f with
    | nx => exact h1 ρ' rfl h
    | bk => exact fun σ' H' R e' => h2 _ _ (h σ' H' R e')
    | ct => exact fun σ' H' R e' => h3 _ _ (h σ' H' R e')
    | rt op => exact fun σ' v H' p => h4 _ _ (h σ' v H' p)
end
section
variable {X : Cx} {F : Fc} {st : Stmt} {rest : List Stmt} {m u : M Fl} {e : Expr} {me : M Op} {pos : Pos}
theorem qss_nil : QSs X F [] sNx := pss_nil.imp fun D σ H ⟨ρ, R, h⟩ => h σ H R (Ext.refl ..)
theorem liftSeq {K : PySem.W.Frag} {D : Ends} {σ : St} {H : Hp} (h : liftS K F (sSeq m u) D σ H) : tSeq (liftS K F m) (liftS K F u) D σ H := by
  obtain ⟨ρ, R, h⟩ := h
  refine ⟨ρ, R, ?_⟩
  unfold sSeq at h
  cases e1 : m ρ with
  | no => rw [e1] at h; exact h.elim
  | er x ρ' => rw [e1] at h; exact h
  | ok f ρ1 =>
    rw [e1] at h
    rw [Rs.bind_ok] at h
    cases f with
    | nx => exact fun σ1 H1 R1 x1 => ⟨ρ1, R1, h.back x1⟩
    | bk => exact h
    | ct => exact h
    | rt op => exact h
theorem qss_cons (h1 : QS X F st m) (h2 : QSs X F rest u) : QSs X F (st :: rest) (sSeq m u) := (pss_cons h1 h2).imp fun _ _ _ h => liftSeq h
theorem qss_one (h1 : QS X F st m) : QSs X F [st] m := pss_one h1
theorem qs_pass : QS X F (.Pass pos) sNx := ps_pass.imp fun D σ H ⟨ρ, R, h⟩ => h σ H R (Ext.refl ..)
theorem qs_break : QS X F (.Break pos) sBk := ps_break.imp fun D σ H ⟨ρ, R, h⟩ => h σ H R (Ext.refl ..)
theorem qs_continue : QS X F (.Continue pos) sCt := ps_continue.imp fun D σ H ⟨ρ, R, h⟩ => h σ H R (Ext.refl ..)
theorem qs_no : QS X F st sNo := ps_never.imp fun D σ H ⟨ρ, R, h⟩ => h
theorem qss_no : QSs X F rest sNo := pss_never.imp fun D σ H ⟨ρ, R, h⟩ => h
theorem qs_expr (he : QE X F e me) (hs : swapsWith e none pos.line X.env = pure false := by rfl) : QS X F (.Expr e pos) (sDrop me) := by
  refine (ps_expr he hs).imp fun D σ H ⟨ρ, R, h⟩ => ⟨noT, ρ, R, ?_⟩
  unfold sDrop at h
  cases e1 : me ρ with
  | no => rw [e1] at h; exact h.elim
  | er x ρ' => rw [e1] at h; exact ErS.toP h
  | ok x ρ1 =>
    rw [e1] at h
    exact fun v H1 p => h σ H1 p.back p.ext
theorem qs_ret (he : QE X F e me) : QS X F (.Return (some e) pos) (sRet me) := by
  refine (ps_ret he).imp fun D σ H ⟨ρ, R, h⟩ => ⟨noT, ρ, R, ?_⟩
  unfold sRet at h
  cases e1 : me ρ with
  | no => rw [e1] at h; exact h.elim
  | er x ρ' => rw [e1] at h; exact ErS.toP h
  | ok x ρ1 =>
    rw [e1] at h
    exact fun v H1 p => h σ v H1 ⟨p.rel, p.ext, p.val, p.new⟩
theorem qs_retN : QS X F (.Return none pos) sRetN := by
  refine ps_retN.imp fun D σ H ⟨ρ, R, h⟩ => ?_
  have p : Post X.K F noT H σ ρ (.val .none) ρ .non H := fin_ R (Ext.refl ..) (fun _ z => z) (pr_val .non)
  exact h σ .non H ⟨p.rel, p.ext, p.val, p.new⟩
theorem qs_if {c : Expr} {a b : List Stmt} {mc : M Bool} (hc : QT X F c mc) (ha : QSs X F a m) (hb : QSs X F b u) : QS X F (.If c a b pos) (sIf mc m u) := by
  refine (ps_if hc ha hb).imp fun D σ H ⟨ρ, R, h⟩ => ⟨noT, ρ, R, ?_⟩
  have h : GS X.K F H σ ρ D ((mc ρ).bind fun k ρ1 => if k = true then m ρ1 else u ρ1) := h
  cases e1 : mc ρ with
  | no => rw [e1] at h; exact h.elim
  | er x ρ' => rw [e1] at h; exact ErS.toP h
  | ok k ρ1 =>
    rw [e1] at h
    rw [Rs.bind_ok] at h
    intro H1 R1 x1
    cases k with
    | false =>
      rw [if_neg Bool.false_ne_true] at h ⊢
      exact ⟨ρ1, R1, h.back x1⟩
    | true =>
      rw [if_pos rfl] at h ⊢
      exact ⟨ρ1, R1, h.back x1⟩
theorem liftSet {K : PySem.W.Frag} {i : Nat} {D : Ends} {σ : St} {H : Hp} (h : liftS K F (sSet i me) D σ H) : tAsg (liftE K F me) (gName i) D σ H := by
  obtain ⟨ρ, R, h⟩ := h
  refine ⟨noT, ρ, R, ?_⟩
  unfold sSet at h
  cases e1 : me ρ with
  | no => rw [e1] at h; exact h.elim
  | er x ρ' => rw [e1] at h; exact ErS.toP h
  | ok x ρ1 =>
    rw [e1] at h
    intro v H1 p
    have h : GS K F H σ ρ D (oNx (stO i ρ1 x)) := h
    cases e2 : stO i ρ1 x with
    | none => rw [e2] at h; exact h.elim
    | some ρ2 =>
      rw [e2] at h
      obtain ⟨r1, r2⟩ := p.store R e2
      exact h _ H1 r1 r2
theorem qs_set {i : Nat} {x : Str} {pos' : Pos} (hN : X.N.Nodup) (hi : X.N[i]? = some x) (hx : Loc X.env.scope x) (he : QE X F e me) (hs : swapsWith e (some (.Name x pos')) pos.line X.env = pure false := by rfl) (hf : X.fn x = true ∨ X.env.scope.names.lookup x = some .local := by first | exact .inl rfl | exact .inr rfl | assumption) :
    QS X F (.Assign [.Name x pos'] e pos) (sSet i me) := (ps_set hN hi hx he hs hf).imp fun _ _ _ h => liftSet h
end
/-- only the slots ws were stored to -/
def Wr (ws : List Nat) (σ σ' : St) : Prop := σ'.length = σ.length ∧ ∀ j : Nat, j ∉ ws → σ'[j]? = σ[j]?
/-- what is wanted of a target: data goes to names -/
def liftG (K : PySem.W.Frag) (F : Fc) (t : Tg) (ws : List Nat) : TG := fun v σ H Q => ∃ T ρ d, Rel K F T H σ ρ ∧ RD K (Fb F T σ ρ) H v d ∧ ∃ ρ', t d ρ = some ρ' ∧ ∀ σ' H', Rel K F T H' σ' ρ' → Ext σ ρ H σ' ρ' H' → Wr ws σ σ' → Q σ' H'
def liftGs (K : PySem.W.Frag) (F : Fc) (t : Tgs) (ws : List Nat) : TGs := fun vs σ H Q => ∃ T ρ ds, Rel K F T H σ ρ ∧ RDs K (Fb F T σ ρ) H vs ds ∧ ∃ ρ', t ds ρ = some ρ' ∧ ∀ σ' H', Rel K F T H' σ' ρ' → Ext σ ρ H σ' ρ' H' → Wr ws σ σ' → Q σ' H'
abbrev QG (X : Cx) (F : Fc) (e : Expr) (t : Tg) (ws : List Nat) : Prop := PG X e (liftG X.K F t ws)
abbrev QGs (X : Cx) (F : Fc) (es : List Expr) (t : Tgs) (ws : List Nat) : Prop := PGs X es (liftGs X.K F t ws)
section
variable {X : Cx} {F : Fc} {pos : Pos} {e : Expr} {es : List Expr} {t : Tg} {u : Tgs} {ws ws' : List Nat}
theorem qg_name {i : Nat} {x : Str} (hN : X.N.Nodup) (hi : X.N[i]? = some x) (hx : Loc X.env.scope x) (hf : X.fn x = true ∨ X.env.scope.names.lookup x = some .local := by first | exact .inl rfl | exact .inr rfl | assumption) : QG X F (.Name x pos) (tName i) [i] := by
  refine (pg_name hN hi hx hf).imp fun v σ H Q ⟨T, ρ, d, R, r, ρ', e, h⟩ => ?_
  unfold tName at e
  by_cases c : free ρ[i]? = true
  · rw [if_pos c] at e; cases e
    obtain ⟨r1, r2⟩ := R.setCl c r
    exact h _ H r1 r2 ⟨List.length_set, fun j hj => List.getElem?_set_ne fun z => hj (by rw [z]; exact List.mem_singleton.mpr rfl)⟩
  · rw [if_neg c] at e; cases e
theorem qgs_nil : QGs X F [] tsNil [] := by
  refine pgs_nil.imp fun vs σ H Q ⟨T, ρ, ds, R, r, ρ', e, h⟩ => ?_
  cases ds with
  | nil =>
    cases r
    cases e
    exact ⟨rfl, h σ H R (Ext.refl ..) ⟨rfl, fun _ _ => rfl⟩⟩
  | cons d ds => cases e
theorem qgs_cons (h1 : QG X F e t ws) (h2 : QGs X F es u ws') (hs : (assignEach (e :: es) X.env).map (·.2) = assign e X.env :: (assignEach es X.env).map (·.2) := by rfl) : QGs X F (e :: es) (tsCons t u) (ws ++ ws') := by
  refine (pgs_cons h1 h2 hs).imp fun vs σ H Q ⟨T, ρ, ds, R, r, ρ', e, h⟩ => ?_
  cases ds with
  | nil => cases e
  | cons d ds =>
    cases r with
    | cons r1 r2 =>
      have e : (t d ρ).bind (u ds) = some ρ' := e
      cases e1 : t d ρ with
      | none => rw [e1] at e; cases e
      | some ρ1 =>
        rw [e1] at e
        refine ⟨_, _, rfl, T, ρ, d, R, r1, ρ1, e1, fun σ1 H1 R1 x1 w1 => ?_⟩
        refine ⟨T, ρ1, ds, R1, RDs.mono (x1.fb fun _ z => .inl z) _ _ r2, ρ', e, fun σ2 H2 R2 x2 w2 => h σ2 H2 R2 (x1.trans x2) ⟨w2.1.trans w1.1, fun j hj => ?_⟩⟩
        rw [w2.2 j fun z => hj (List.mem_append_right _ z), w1.2 j fun z => hj (List.mem_append_left _ z)]
theorem qg_tup {k : Nat} {n : Nat} (hc : X.calm = true) (h : QGs X F es u ws) (hl : ∀ ds ρ ρ', u ds ρ = some ρ' → ds.length = n)
    (hn : (assignEach es X.env).length = n := by rfl) (hst : (assignEach es X.env).findIdx? (·.1) = none := by rfl) : QG X F (.Tuple es k pos) (tTup u) ws := by
  refine (pg_tup hc h hn hst).imp fun v σ H Q ⟨T, ρ, d, R, r, ρ', e, h⟩ => ?_
  cases d with
  | tuple ds =>
    obtain ⟨a, xs, q1, q2, q3⟩ := (RB.rd r).tup
    exact ⟨a, xs, q1, q2, by rw [q3.length]; exact hl ds ρ ρ' e, T, ρ, ds, R, q3, ρ', e, h⟩
  | _ => cases e
theorem ts_len0 : ∀ ds (ρ ρ' : Ev), tsNil ds ρ = some ρ' → ds.length = 0 := fun ds ρ ρ' e => by
  cases ds with
  | nil => rfl
  | cons d ds => cases e
theorem ts_lenS {n : Nat} (h : ∀ ds (ρ ρ' : Ev), u ds ρ = some ρ' → ds.length = n) : ∀ ds (ρ ρ' : Ev), tsCons t u ds ρ = some ρ' → ds.length = n + 1 := fun ds ρ ρ' e => by
  cases ds with
  | nil => cases e
  | cons d ds =>
    have e : (t d ρ).bind (u ds) = some ρ' := e
    cases e1 : t d ρ with
    | none => rw [e1] at e; cases e
    | some ρ1 =>
      rw [e1] at e
      exact congrArg (· + 1) (h ds ρ1 ρ' e)
/-- target = value, the value is kept -/
theorem qs_asg {tg : Expr} {me : M Op} (he : QE X F e me) (hg : QG X F tg t ws) (hs : swapsWithSole [tg] e pos.line X.env = pure false := by rfl) (hw : swappedStores [tg] e X.env = pure none := by rfl)
    (h1 : (assignEach [tg] X.env).map (·.2) = [assign tg X.env] := by rfl) : QS X F (.Assign [tg] e pos) (sTg t me) := by
  refine (ps_asg (liftK_ he) hg hs hw h1).imp fun D σ H ⟨ρ, R, h⟩ => ⟨noT, ρ, R, ?_⟩
  unfold sTg at h
  cases e1 : mK me ρ with
  | no => rw [e1] at h; exact h.elim
  | er x ρ' => rw [e1] at h; exact ErS.toP h
  | ok d ρ1 =>
    rw [e1] at h
    intro v H1 R1 x1 r1
    have h : GS X.K F H σ ρ D (oNx (t d ρ1)) := h
    cases e2 : t d ρ1 with
    | none => rw [e2] at h; exact h.elim
    | some ρ2 =>
      rw [e2] at h
      exact ⟨noT, ρ1, d, R1, r1, ρ2, e2, fun σ2 H2 R2 x2 _ => h σ2 H2 R2 (x1.trans x2)⟩
end
end Vx
set_option maxHeartbeats 2000000
namespace Vx
open PySem PySem.Spec L2
inductive Sk where
  | L | T
def SqS (K : PySem.W.Frag) (k : Sk) (H : Hp) (a : Addr) (xs : List V) : Prop := match k with
  | .L => SqL K H a xs
  | .T => SqT K H a xs
def IsS (k : Sk) (h : Heap) (a : Addr) (its : Array Value) : Prop := match k with
  | .L => h.IsList a its
  | .T => h.IsTuple a its
def ItS (k : Sk) (h : Heap) (it a : Addr) (i : Nat) : Prop := match k with
  | .L => h.IsListIter it a i
  | .T => h.IsTupleIter it a i
def obS (k : Sk) (a : Addr) : Obj := match k with
  | .L => { cls := .type "list_iterator", data := .fields #[.ref a, .int 0 0] }
  | .T => { cls := .type "tuple_iterator", data := .fields #[.ref a, .int 0 0] }
theorem begS (k : Sk) (a : Addr) (its : Array Value) : Begins (.ref a) (obS k a) fun h => IsS k h a its := by
  cases k
  · exact begins_list a its
  · exact begins_tuple a its
theorem drawS {P : Program} {w : World} {A : Around} (k : Sk) (hh : A.handled = none) (it a : Addr) (ne : a ≠ it) (its : Array Value) : Draws P w A it [it, a] its.size (fun i v => its[i]? = some v) (fun i h => ItS k h it a i ∧ IsS k h a its) := by
  cases k
  · exact Draws.list hh it a ne its
  · exact Draws.tuple hh it a ne its
theorem itS0 {k : Sk} {h : Heap} {it a : Addr} (e : h.get? it = some (obS k a)) : ItS k h it a 0 := by
  cases k <;> exact ⟨_, e, rfl, rfl⟩
theorem ItS.obj {k : Sk} {h : Heap} {it a : Addr} {i : Nat} (x : ItS k h it a i) : ∃ o, h.get? it = some o ∧ ∀ v, o.data ≠ .cell v := by
  cases k <;> (obtain ⟨o, ho, hc, hd⟩ := x; exact ⟨o, ho, fun v q => by rw [hd] at q; cases q⟩)
theorem ItS.keep {k : Sk} {h h' : Heap} {it a : Addr} {i : Nat} (x : ItS k h it a i) (g : ∀ o, h.get? it = some o → h'.get? it = some o) : ItS k h' it a i := by
  cases k <;> exact x.at g
section
variable {X : Cx} {pins : List (Addr × Obj)} {σ : St} {H : Hp} {s : Shared} {k : Sk} {a : Addr} {xs ys : List V}
theorem srcI (I : Inv X pins σ H s) (h : SqS X.K k H a xs) : ∃ its : List Value, Vals xs its ∧ IsS k s.heap a its.toArray ∧ xs.length ≤ sizeLine := by
  cases k with
  | L => obtain ⟨its, r, p, z⟩ := I.list h; exact ⟨its, r, p.isList, z⟩
  | T => obtain ⟨its, r, p, z⟩ := I.tuple h; exact ⟨its, r, p, z⟩
theorem srcInj (I : Inv X pins σ H s) (h : SqS X.K k H a xs) (h' : SqS X.K k H a ys) : xs = ys := by
  cases k with
  | L => exact I.list_inj h h'
  | T => exact I.tuple_inj h h'
end
/-- the source as it stands at each turn, each item in a new pair behind its number -/
def ItE (K : PySem.W.Frag) (k : Sk) (a : Addr) : It :=
  ⟨fun i H => ∃ (xs : List V) (x : V), SqS K k H a xs ∧ xs[i]? = some x,
   fun i H v H' => ∃ T x, v = .ref T ∧ H T = none ∧ H' = upd H T (.tup [.int (i : Nat), x]) ∧ ∀ xs, SqS K k H a xs → xs[i]? = some x,
   fun i H => ∃ xs : List V, SqS K k H a xs ∧ xs.length = i⟩
theorem pairNew {X : Cx} {pins : List (Addr × Obj)} {σ : St} {H : Hp} {s : Shared} {h' : Heap} {tk : Nat} {ch : List Addr} {T : Addr} {x y : V} {u v : Value} (I : Inv X pins σ H s) (kp : ∀ b o, b ∉ ch → s.heap.get? b = some o → h'.get? b = some o)
    (hf : ∀ b ∈ ch, FpOk X pins H b) (hT : s.heap.objs.size ≤ T) (t : h'.IsTuple T #[u, v]) (rx : RelV x u) (ry : RelV y v) : Inv X pins σ (upd H T (.tup [x, y])) { s with heap := h', toks := tk } :=
  Inv.turnedNew (ch := ch) I kp hf hT ⟨by show 2 ≤ sizeLine; decide, [u, v], .cons rx (.cons ry .nil), t⟩
theorem turnE {P : Program} {w : World} {K : PySem.W.Frag} {elts : List Expr} {kk : Nat} {tpos : Pos} (k : Sk) (a e it : Addr) (hei : e ≠ it) (hea : e ≠ a) (hia : it ≠ a) :
    Turn P w K (.Tuple elts kk tpos) (ItE K k a) [e, it] e (fun i h => (∃ old, IsEnum h e it ((i : Nat) : Int) old) ∧ ItS k h it a i) where
  mem := List.mem_cons_self
  obj := fun i h st b hb => by
    obtain ⟨⟨old, he⟩, hi⟩ := st
    rcases List.mem_cons.mp hb with z | z
    · subst z; exact ⟨_, he, fun v q => nomatch q⟩
    · have z := List.mem_singleton.mp z
      subst z; exact hi.obj
  keep := fun i h h' st g => ⟨st.1.imp fun old he => g e List.mem_cons_self _ he, st.2.keep fun o q => g it (List.mem_cons_of_mem _ List.mem_cons_self) o q⟩
  item := by
    intro X hP hw hK hc i pins s σ H E I hf st hg
    subst hP; subst hw; subst hK
    obtain ⟨xs, x, hq, hx⟩ := hg
    obtain ⟨its, rv, p, hz⟩ := srcI I hq
    obtain ⟨u, hu, ru⟩ := rv.get hx
    have hi : i < its.length := (List.getElem?_eq_some_iff.mp hu).1
    have W := GoesN.enumFrom (prog := X.prog) (w := X.w) (A := X.A) (elts := elts) (x1 := kk) (pos := tpos) 0 (drawS k (show X.A.in1.handled = none from I.ok.hd hc) it a (Ne.symm hia) its.toArray) e hei (by
      intro z
      rcases List.mem_cons.mp z with z | z
      · exact hei z
      · exact hea (List.mem_singleton.mp z)) List.mem_cons_self
    have st2 : (∃ old, IsEnum s.heap e it (0 + (i : Int)) old) ∧ ItS k s.heap it a i ∧ IsS k s.heap a its.toArray := ⟨by rw [Int.zero_add]; exact st.1, st.2, p⟩
    refine W.goes i s _ E (by simpa using hi) st2 fun v h' tk hY st' kp _ => ?_
    obtain ⟨T, t, y, ev, hT, hy, tup⟩ := hY
    have ey : y = u := by
      have q : its.toArray[i]? = some y := hy
      have q2 : its.toArray[i]? = some u := by simpa using hu
      rw [q2] at q; exact (Option.some.inj q).symm
    subst ev; subst ey
    have tup : h'.IsTuple T #[.int (0 + (i : Int)) t, y] := tup
    rw [Int.zero_add] at tup
    have I1 := pairNew (x := .int (i : Nat)) (y := x) (tk := tk) I kp hf hT tup ⟨t, rfl⟩ ru
    have hn : H T = none := I.hok.fresh hT
    refine ⟨.ref T, _, I1, rfl, ⟨T, x, rfl, hn, rfl, fun ys hy => by rw [srcInj I hy hq]; exact hx⟩, ⟨?_, st'.2.1⟩, fun b hb => ?_⟩
    · obtain ⟨old, q⟩ := st'.1
      refine ⟨old, ?_⟩
      have e1 : (0 : Int) + ((i + 1 : Nat) : Int) = ((i + 1 : Nat) : Int) := Int.zero_add _
      rw [← e1]; exact q
    · have fb := hf b hb
      have ne : b ≠ T := by
        obtain ⟨o, ho⟩ : ∃ o, s.heap.get? b = some o := by
          rcases List.mem_cons.mp hb with z | z
          · subst z; obtain ⟨old, q⟩ := st.1; exact ⟨_, q⟩
          · have z := List.mem_singleton.mp z
            subst z; obtain ⟨o, q, _⟩ := st.2.obj; exact ⟨o, q⟩
        exact Nat.ne_of_lt (Nat.lt_of_lt_of_le (Heap.lt_size ho) hT)
      rw [upd_ne ne]
      exact fb.1
  done := by
    intro X hP hw hK hc i pins s σ H E I hf st hg
    subst hP; subst hw; subst hK
    obtain ⟨xs, hq, hx⟩ := hg
    obtain ⟨its, rv, p, hz⟩ := srcI I hq
    have hl := rv.length
    have W := GoesN.enumFrom (prog := X.prog) (w := X.w) (A := X.A) (elts := elts) (x1 := kk) (pos := tpos) 0 (drawS k (show X.A.in1.handled = none from I.ok.hd hc) it a (Ne.symm hia) its.toArray) e hei (by
      intro z
      rcases List.mem_cons.mp z with z | z
      · exact hei z
      · exact hea (List.mem_singleton.mp z)) List.mem_cons_self
    have en : its.toArray.size = i := by simp; omega
    have st2 : (∃ old, IsEnum s.heap e it (0 + ((its.toArray.size : Nat) : Int)) old) ∧ ItS k s.heap it a its.toArray.size ∧ IsS k s.heap a its.toArray := by
      rw [en]
      exact ⟨by rw [Int.zero_add]; exact st.1, st.2, p⟩
    exact W.stops s _ E st2 fun h' tk kp _ => I.turnedL (ch := [e, it]) kp hf
  self := fun A i s Q E st h => by
    obtain ⟨⟨old, he⟩, _⟩ := st
    exact wpAny_pyIter_enum he h
/-- enumerate(v): v a list or a tuple -/
theorem enum_new {P : Program} {w : World} {A : Around} {E : Value → Shared → Prop} {s : Shared} {v : Value} {o : Obj} {Hs : Heap → Prop} {Q : Value → Shared → Prop} (B : Begins v o Hs) (h1 : Hs s.heap)
    (h : ∀ h', IsEnum h' (s.heap.objs.size + 1) s.heap.objs.size 0 .none → h'.get? s.heap.objs.size = some o → (∀ b o, s.heap.get? b = some o → h'.get? b = some o) → Q (.ref (s.heap.objs.size + 1)) { s with heap := h' }) :
    wpAny (model P w) A (call (.type "enumerate") [v]) Q E s := by
  have M : Meets (Builtin.«enumerate.__new__» ⟨[.type "enumerate", v], []⟩) (fun _ R s => Hs s.heap ∧ R (.ok (.ret (.ref (s.heap.push o).objs.size))) { s with heap := (s.heap.push o).push { cls := .type "enumerate", data := .fields #[.none, .bool false, .ref s.heap.objs.size, rawInt 0, .none, .none] } }) :=
    .of_wp fun prog w A R s h => by
      obtain ⟨hp, g, d, tk, os⟩ := s
      obtain ⟨h1, h⟩ := h
      have hsub := sub_enumerate
      have q1 : ∀ {A' : Around} {E : Value → Shared → Prop} {Q : Value → Shared → Prop}, Q (.ref hp.objs.size) ⟨hp.push o, g, d, tk, os⟩ → wpAny (model prog w) A' (pyIter v) Q E ⟨hp, g, d, tk, os⟩ := fun q => B.iter prog w _ _ ⟨hp, g, d, tk, os⟩ _ h1 q
      wp_walk using q1
      refine wpAny_stack_any fun st => wpAny_pure ?_
      split
      · rename_i c _ _ _ _ _
        cases (c == Value.type "enumerate") <;> (wp_walk using q1; exact ⟨_, rfl, h⟩)
      · wp_walk using q1
        exact ⟨_, rfl, h⟩
  refine callType_new F.called_enumerate (by decide) (F.typeCall_enumerate_1 _) (F.newCall_enumerate_1 _) (fun obj => F.args_object_init_2 obj _) F.entry_enumerate_new M ⟨h1, ?_⟩
  have hz : (s.heap.push o).objs.size = s.heap.objs.size + 1 := Heap.size_push ..
  have he : IsEnum ((s.heap.push o).push { cls := .type "enumerate", data := .fields #[.none, .bool false, .ref s.heap.objs.size, rawInt 0, .none, .none] }) (s.heap.objs.size + 1) s.heap.objs.size 0 .none := by
    have z := Heap.get?_push_size (s.heap.push o) (o := { cls := .type "enumerate", data := .fields #[.none, .bool false, .ref s.heap.objs.size, rawInt 0, .none, .none] }) rfl
    rw [hz] at z; exact z
  show _ ∧ _
  rw [hz]
  exact ⟨⟨_, he, rfl⟩, h _ he (Heap.get?_push_of_some _ (Heap.get?_push_size _ B.free)) fun b o x => Heap.get?_push_of_some _ (Heap.get?_push_of_some _ x)⟩
end Vx
set_option maxHeartbeats 2000000
namespace Vx
open PySem PySem.Spec L2
def ItZ (K : PySem.W.Frag) (k l : Sk) (a b : Addr) : It :=
  ⟨fun i H => ∃ (xs ys : List V) (x y : V), SqS K k H a xs ∧ SqS K l H b ys ∧ xs[i]? = some x ∧ ys[i]? = some y,
   fun i H v H' => ∃ T x y, v = .ref T ∧ H T = none ∧ H' = upd H T (.tup [x, y]) ∧ (∀ xs, SqS K k H a xs → xs[i]? = some x) ∧ ∀ ys, SqS K l H b ys → ys[i]? = some y,
   fun i H => ∃ xs ys : List V, SqS K k H a xs ∧ SqS K l H b ys ∧ min xs.length ys.length = i⟩
structure ZSep (z TI TO i1 i2 a b : Addr) : Prop where
  sep : ZipSep2 z TI TO i1 i2 [i1, a] [i2, b]
  a1 : a ≠ i1
  b2 : b ≠ i2
theorem turnZ {P : Program} {w : World} {K : PySem.W.Frag} {elts : List Expr} {kk : Nat} {tpos : Pos} {k l : Sk} {z TI TO i1 i2 a b : Addr} (S : ZSep z TI TO i1 i2 a b) :
    Turn P w K (.Tuple elts kk tpos) (ItZ K k l a b) [z, TI, TO, i1, i2] z
      (fun i h => IsZip h z TI TO .none ∧ IsTupOf2 h TI (.ref i1) (.ref i2) ∧ (∃ a1 a2, IsTupOf2 h TO a1 a2) ∧ ItS k h i1 a i ∧ ItS l h i2 b i) where
  mem := List.mem_cons_self
  obj := fun i h st c hc => by
    obtain ⟨h1, h2, ⟨a1, a2, h3⟩, h4, h5⟩ := st
    simp only [List.mem_cons, List.not_mem_nil, or_false] at hc
    rcases hc with rfl | rfl | rfl | rfl | rfl
    · exact ⟨_, h1, fun v q => nomatch q⟩
    · exact ⟨_, h2, fun v q => nomatch q⟩
    · exact ⟨_, h3, fun v q => nomatch q⟩
    · exact h4.obj
    · exact h5.obj
  keep := fun i h h' st g => by
    obtain ⟨h1, h2, ⟨a1, a2, h3⟩, h4, h5⟩ := st
    exact ⟨g z (by simp) _ h1, g TI (by simp) _ h2, ⟨a1, a2, g TO (by simp) _ h3⟩, h4.keep fun o q => g i1 (by simp) o q, h5.keep fun o q => g i2 (by simp) o q⟩
  item := by
    intro X hP hw hK hc i pins s σ H E I hf st hg
    subst hP; subst hw; subst hK
    obtain ⟨xs, ys, x, y, hq, hr, hx, hy⟩ := hg
    obtain ⟨its, rv, p, hz⟩ := srcI I hq
    obtain ⟨jts, rw', p', hz'⟩ := srcI I hr
    obtain ⟨u, hu, ru⟩ := rv.get hx
    obtain ⟨u', hu', ru'⟩ := rw'.get hy
    have hi : i < its.length := (List.getElem?_eq_some_iff.mp hu).1
    have hj : i < jts.length := (List.getElem?_eq_some_iff.mp hu').1
    have hh : X.A.in1.handled = none := I.ok.hd hc
    have W := GoesN.zip2 (prog := X.prog) (w := X.w) (A := X.A) (elts := elts) (x1 := kk) (pos := tpos) S.sep (drawS k hh i1 a S.a1 its.toArray) (drawS l hh i2 b S.b2 jts.toArray)
    obtain ⟨h1, h2, h3, h4, h5⟩ := id st
    refine W.goes i s _ E (by simp; omega) ⟨h1, h2, h3, ⟨h4, p⟩, ⟨h5, p'⟩⟩ fun v h' tk hY st' kp _ => ?_
    obtain ⟨T, c, d, ev, hT, hcx, hdx, tup⟩ := hY
    have ec : c = u := by
      have q : its.toArray[i]? = some c := hcx
      have q2 : its.toArray[i]? = some u := by simpa using hu
      rw [q2] at q; exact (Option.some.inj q).symm
    have ed : d = u' := by
      have q : jts.toArray[i]? = some d := hdx
      have q2 : jts.toArray[i]? = some u' := by simpa using hu'
      rw [q2] at q; exact (Option.some.inj q).symm
    subst ev; subst ec; subst ed
    have kp' : ∀ b o, b ∉ [z, TI, TO, i1, i2] → s.heap.get? b = some o → h'.get? b = some o := fun b o hb e => kp b o (fun q => hb (by
      simp only [List.mem_cons, List.not_mem_nil, or_false] at q ⊢
      rcases q with q | q | q | q
      · exact .inl q
      · exact .inr (.inr (.inl q))
      · exact .inr (.inr (.inr (.inl q)))
      · exact .inr (.inr (.inr (.inr q))))) e
    have I1 := pairNew (x := x) (y := y) (tk := tk) I kp' hf hT tup ru ru'
    have hn : H T = none := I.hok.fresh hT
    obtain ⟨g1, g2, g3, g4, g5⟩ := st'
    refine ⟨.ref T, _, I1, rfl, ⟨T, x, y, rfl, hn, rfl, fun zs hz => by rw [srcInj I hz hq]; exact hx, fun zs hz => by rw [srcInj I hz hr]; exact hy⟩, ⟨g1, g2, g3, g4.1, g5.1⟩, fun b hb => ?_⟩
    have ne : b ≠ T := by
      obtain ⟨o, ho⟩ : ∃ o, s.heap.get? b = some o := by
        simp only [List.mem_cons, List.not_mem_nil, or_false] at hb
        rcases hb with rfl | rfl | rfl | rfl | rfl
        · exact ⟨_, h1⟩
        · exact ⟨_, h2⟩
        · obtain ⟨_, _, h3⟩ := h3; exact ⟨_, h3⟩
        · exact h4.obj.imp fun _ q => q.1
        · exact h5.obj.imp fun _ q => q.1
      exact Nat.ne_of_lt (Nat.lt_of_lt_of_le (Heap.lt_size ho) hT)
    rw [upd_ne ne]
    exact (hf b hb).1
  done := by
    intro X hP hw hK hc i pins s σ H E I hf st hg
    subst hP; subst hw; subst hK
    obtain ⟨xs, ys, hq, hr, hx⟩ := hg
    obtain ⟨its, rv, p, hz⟩ := srcI I hq
    obtain ⟨jts, rw', p', hz'⟩ := srcI I hr
    have hl := rv.length
    have hl' := rw'.length
    have hh : X.A.in1.handled = none := I.ok.hd hc
    have W := GoesN.zip2 (prog := X.prog) (w := X.w) (A := X.A) (elts := elts) (x1 := kk) (pos := tpos) S.sep (drawS k hh i1 a S.a1 its.toArray) (drawS l hh i2 b S.b2 jts.toArray)
    have en : min its.toArray.size jts.toArray.size = i := by simp; omega
    obtain ⟨h1, h2, h3, h4, h5⟩ := id st
    refine W.stops s _ E (by rw [en]; exact ⟨h1, h2, h3, ⟨h4, p⟩, ⟨h5, p'⟩⟩) fun h' tk kp _ => I.turnedL (ch := [z, TI, TO, i1, i2]) (fun b o hb e => kp b o (fun q => hb ?_) e) hf
    simp only [List.mem_cons, List.not_mem_nil, or_false] at q ⊢
    rcases q with q | q | q | q
    · exact .inl q
    · exact .inr (.inr (.inl q))
    · exact .inr (.inr (.inr (.inl q)))
    · exact .inr (.inr (.inr (.inr q)))
  self := fun A i s Q E st h => by
    obtain ⟨h1, _⟩ := st
    exact wpAny_pyIter_zip h1 h
end Vx
set_option maxHeartbeats 2000000
namespace Vx
open PySem PySem.Spec L2
/-- data of a value that is walked: an own list is shared, a lent one is read -/
def kpiS (i : Nat) (ρ : Ev) : Option Sl → Option (D × Ev)
  | some (.cl d) => some (d, ρ)
  | some (.bo d) => some (d, ρ)
  | some (.ow d) => some (d, ρ.set i (.cl d))
  | _ => none
@[simp] theorem kpiS_cl (i : Nat) (ρ : Ev) (d : D) : kpiS i ρ (some (.cl d)) = some (d, ρ) := rfl
@[simp] theorem kpiS_bo (i : Nat) (ρ : Ev) (d : D) : kpiS i ρ (some (.bo d)) = some (d, ρ) := rfl
@[simp] theorem kpiS_ow (i : Nat) (ρ : Ev) (d : D) : kpiS i ρ (some (.ow d)) = some (d, ρ.set i (.cl d)) := rfl
def kpi (ρ : Ev) : Op → Option (D × Ev)
  | .val d => some (d, ρ)
  | .fr d => some (d, ρ)
  | .sl i => kpiS i ρ ρ[i]?
@[simp] theorem kpi_val (ρ : Ev) (d : D) : kpi ρ (.val d) = some (d, ρ) := rfl
@[simp] theorem kpi_fr (ρ : Ev) (d : D) : kpi ρ (.fr d) = some (d, ρ) := rfl
@[simp] theorem kpi_sl (ρ : Ev) (i : Nat) : kpi ρ (.sl i) = kpiS i ρ ρ[i]? := rfl
def mKi (ma : M Op) : M D := fun ρ => (ma ρ).bind fun x ρ1 => optE (kpi ρ1 x)
def kiNil : M (List D) := fun ρ => .ok [] ρ
def kiCons (ma : M Op) (as : M (List D)) : M (List D) := fun ρ => (mKi ma ρ).bind fun x ρ1 => (as ρ1).bind fun xs ρ2 => .ok (x :: xs) ρ2
/-- stands until the body's end -/
def SR (K : PySem.W.Frag) (F : Fc) (A : Fo) (H : Hp) (v : V) (d : D) : Prop := RD K A H v d ∨ ∃ a, v = .ref a ∧ BO K F A H a d
inductive SRs (K : PySem.W.Frag) (F : Fc) (A : Fo) (H : Hp) : List V → List D → Prop
  | nil : SRs K F A H [] []
  | cons {v : V} {vs : List V} {d : D} {ds : List D} : SR K F A H v d → SRs K F A H vs ds → SRs K F A H (v :: vs) (d :: ds)
def KpH (F : Fc) (H : Hp) : Prop := ∀ b o, F.H0 b = some o → nTb o = true → ¬ F.L b → H b = some o
section
variable {K : PySem.W.Frag} {F : Fc} {A A' : Fo} {H H' : Hp} {v : V} {d : D}
theorem SR.mono (h : SR K F A H v d) (l : Le A H A' H') : SR K F A' H' v d := h.imp (fun h => RD.mono l _ _ h) fun ⟨a, e, q⟩ => ⟨a, e, q.mono l⟩
theorem SRs.mono (l : Le A H A' H') : ∀ {vs : List V} {ds : List D}, SRs K F A H vs ds → SRs K F A' H' vs ds
  | _, _, .nil => .nil
  | _, _, .cons h q => .cons (h.mono l) (SRs.mono l q)
theorem SR.src (h : SR K F A H v d) (kp : KpH F H) {ds : List D} (e : itL d = some ds) : ∃ k a xs, v = .ref a ∧ SqS K k H a xs ∧ RDs K A H xs ds := by
  rcases h with h | ⟨a, ev, h⟩
  · cases d <;> first
      | (cases e; done)
      | (cases e
         obtain ⟨a, xs, q1, q2, q3⟩ := (RB.rd h).lst
         exact ⟨.L, a, xs, q1, q2, q3⟩)
      | (cases e
         obtain ⟨a, xs, q1, q2, q3⟩ := (RB.rd h).tup
         exact ⟨.T, a, xs, q1, q2, q3⟩)
  · cases d <;> first
      | (cases e; done)
      | exact h.elim
      | (cases e
         obtain ⟨xs, h, q⟩ := h
         refine ⟨.L, a, xs, ev, ?_, q⟩
         rcases h with ⟨h | ⟨o, h⟩, n⟩ | h
         · exact .inl (.inl (kp _ _ h rfl n))
         · exact .inl (.inr ⟨o, kp _ _ h rfl n⟩)
         · exact sqL_K h)
/-- the walk J yields the items, wherever what was known stands -/
def ItOk (K : PySem.W.Frag) (F : Fc) (A0 : Fo) (H1 : Hp) (J : It) (ds : List D) : Prop := ∀ (i : Nat) (A : Fo) (H : Hp), Le A0 H1 A H → (∀ b, A b → H b ≠ none) → KpH F H →
  (∀ d, ds[i]? = some d → J.go i H ∧ ∀ x H', J.yld i H x H' → (∀ b o, H b = some o → H' b = some o) ∧ RD K A H' x d) ∧ (ds.length = i → J.stop i H)
def GKi (K : PySem.W.Frag) (F : Fc) (T : Fo) (H : Hp) (σ : St) (ρ : Ev) (Q : VK) : Rs D → Prop
  | .ok d ρ' => ∀ v H', Rel K F T H' σ ρ' → Ext σ ρ H σ ρ' H' → SR K F (Fb F T σ ρ') H' v d → Q v H'
  | .er x ρ' => ErP K F T H σ ρ x ρ'
  | .no => False
def liftKi (K : PySem.W.Frag) (F : Fc) (m : M D) : TE := fun σ H Q => ∃ T ρ, Rel K F T H σ ρ ∧ GKi K F T H σ ρ Q (m ρ)
def GKis (K : PySem.W.Frag) (F : Fc) (T : Fo) (H : Hp) (σ : St) (ρ : Ev) (Q : List V → Hp → Prop) : Rs (List D) → Prop
  | .ok ds ρ' => ∀ vs H', Rel K F T H' σ ρ' → Ext σ ρ H σ ρ' H' → SRs K F (Fb F T σ ρ') H' vs ds → Q vs H'
  | .er x ρ' => ErP K F T H σ ρ x ρ'
  | .no => False
def liftKis (K : PySem.W.Frag) (F : Fc) (m : M (List D)) : TA := fun σ H Q => ∃ T ρ, Rel K F T H σ ρ ∧ GKis K F T H σ ρ Q (m ρ)
def GI (K : PySem.W.Frag) (F : Fc) (T : Fo) (H : Hp) (σ : St) (ρ : Ev) (R : It → Hp → Prop) : Rs (List D) → Prop
  | .ok ds ρ' => ∀ J H', Rel K F T H' σ ρ' → Ext σ ρ H σ ρ' H' → ItOk K F (Fb F T σ ρ') H' J ds → R J H'
  | .er x ρ' => ErP K F T H σ ρ x ρ'
  | .no => False
def liftI (K : PySem.W.Frag) (F : Fc) (m : M (List D)) : TI := fun σ H R => ∃ T ρ, Rel K F T H σ ρ ∧ GI K F T H σ ρ R (m ρ)
theorem Post.kpi {T : Fo} {σ : St} {ρ ρ' ρ2 : Ev} {op : Op} (R : Rel K F T H σ ρ) (p : Post K F T H σ ρ op ρ' v H') (e : kpi ρ' op = some (d, ρ2)) : Rel K F T H' σ ρ2 ∧ Ext σ ρ H σ ρ2 H' ∧ SR K F (Fb F T σ ρ2) H' v d := by
  have old : ∀ (e : Vx.kp ρ' op = some (d, ρ2)), Rel K F T H' σ ρ2 ∧ Ext σ ρ H σ ρ2 H' ∧ SR K F (Fb F T σ ρ2) H' v d := fun e => by
    obtain ⟨a, b, c⟩ := p.kp R e
    exact ⟨a, b, .inl c⟩
  cases op with
  | val d' => exact old e
  | fr d' => exact old e
  | sl i =>
    have hv : σ[i]? = some (some v) := p.val
    have e : kpiS i ρ' ρ'[i]? = some (d, ρ2) := e
    cases q : ρ'[i]? with
    | none => rw [q] at e; cases e
    | some s =>
      rw [q] at e
      cases s with
      | un => cases e
      | le _ => cases e
      | cl d' => exact old (show keepS i ρ' ρ'[i]? = some (d, ρ2) by rw [q]; exact e)
      | ow d' => exact old (show keepS i ρ' ρ'[i]? = some (d, ρ2) by rw [q]; exact e)
      | bo d' =>
        cases e
        have Rl := p.back
        obtain ⟨a, q1, q2⟩ := Rl.bo i d q
        rw [hv] at q1; cases q1
        exact ⟨Rl, p.ext, .inr ⟨a, rfl, q2⟩⟩
end
abbrev QI (X : Cx) (F : Fc) (tg e : Expr) (m : M (List D)) : Prop := PI X tg e (liftI X.K F m)
abbrev QKi (X : Cx) (F : Fc) (e : Expr) (m : M D) : Prop := PE X e (liftKi X.K F m)
abbrev QKis (X : Cx) (F : Fc) (es : List Expr) (m : M (List D)) : Prop := PA X es (liftKis X.K F m)
section
variable {X : Cx} {F : Fc} {tg e : Expr} {es : List Expr} {me : M Op} {mks : M (List D)} {mas : M (List Op)} {p pos tpos : Pos}
theorem liftKi_ (h : QE X F e me) : QKi X F e (mKi me) := by
  refine h.imp fun σ H Q ⟨T, ρ, R, h⟩ => ⟨T, ρ, R, ?_⟩
  unfold mKi at h
  cases e1 : me ρ with
  | no => rw [e1] at h; exact h.elim
  | er x ρ' => rw [e1] at h; exact h
  | ok x ρ1 =>
    rw [e1] at h
    intro v H1 p
    have h : GKi X.K F T H σ ρ Q (optE (kpi ρ1 x)) := h
    cases e2 : kpi ρ1 x with
    | none => rw [e2] at h; exact h.elim
    | some q =>
      obtain ⟨d, ρ2⟩ := q
      rw [e2] at h
      obtain ⟨r1, r2, r3⟩ := p.kpi R e2
      exact h v H1 r1 r2 r3
theorem qki_nil : QKis X F [] kiNil := pa_nil.imp fun σ H Q ⟨T, ρ, R, h⟩ => h [] H R (Ext.refl ..) .nil
theorem qki_cons (ha : QE X F e me) (hr : QKis X F es mks) (hs : starEach (e :: es) X.env = (false, eval e X.env) :: starEach es X.env := by rfl) : QKis X F (e :: es) (kiCons me mks) := by
  refine (pa_cons (liftKi_ ha) hr hs).imp fun σ H Q ⟨T, ρ, R, h⟩ => ⟨T, ρ, R, ?_⟩
  unfold kiCons at h
  cases e1 : mKi me ρ with
  | no => rw [e1] at h; exact h.elim
  | er x ρ' => rw [e1] at h; exact h
  | ok d ρ1 =>
    rw [e1] at h
    intro v H1 R1 x1 q1
    refine ⟨T, ρ1, R1, ?_⟩
    have h : GKis X.K F T H σ ρ Q ((mks ρ1).bind fun xs ρ2 => .ok (d :: xs) ρ2) := h
    cases e2 : mks ρ1 with
    | no => rw [e2] at h; exact h.elim
    | er z ρ' =>
      rw [e2] at h
      exact ErP.back (show ErP X.K F T H σ ρ z ρ' from h) x1 fun _ z => z
    | ok ds ρ2 =>
      rw [e2] at h
      intro vs H2 R2 x2 q2
      exact h (v :: vs) H2 R2 (x1.trans x2) (.cons (q1.mono (x2.fb fun _ z => .inl z)) q2)
/-- a list or a tuple -/
theorem pi_any {tl : TE} (hl : PE X e tl) : PI X tg e (fun σ H R => tl σ H fun x H1 => (∃ a xs, x = .ref a ∧ SqL X.K H1 a xs ∧ R (Itl X.K a) H1) ∨ ∃ a xs, x = .ref a ∧ SqT X.K H1 a xs ∧ R (Itt X.K a) H1) := by
  constructor
  intro pins s σ H R I h
  refine thn (hl.run pins s σ H _ I h) fun v s1 ⟨x, H1, I1, r1, q1⟩ => ?_
  have fp : ∀ b ∈ [s1.heap.objs.size], FpOk X pins H1 b := fun b hb => by
    rw [List.mem_singleton.mp hb]
    exact I1.fpOk (Nat.le_refl _) (I1.hok.fresh (Nat.le_refl _))
  rcases q1 with ⟨a, xs, ex, hq, q⟩ | ⟨a, xs, ex, hq, q⟩
  · subst ex; cases r1
    obtain ⟨its, rv, pl, hz⟩ := I1.list hq
    exact wpAny_pyIter_list pl.isList ⟨_, [s1.heap.objs.size], _, _, H1, rfl, Inv.kept (t' := s1.toks) I1 fun b o e => Heap.get?_push_of_some _ e, turn_list a _, ⟨_, Heap.get?_push_size _ rfl, rfl, rfl⟩, fp, q⟩
  · subst ex; cases r1
    obtain ⟨its, rv, pl, hz⟩ := I1.tuple hq
    exact wpAny_pyIter_tuple (show s1.heap.IsTuple a its.toArray from pl) ⟨_, [s1.heap.objs.size], _, _, H1, rfl, Inv.kept (t' := s1.toks) I1 fun b o e => Heap.get?_push_of_some _ e, turn_tuple a _, ⟨_, Heap.get?_push_size _ rfl, rfl, rfl⟩, fp, q⟩
/-- the items of a source -/
theorem itOk_src {K : PySem.W.Frag} {A : Fo} {H : Hp} {v : V} {d : D} {ds : List D} (r : SR K F A H v d) (kp : KpH F H) (e : itL d = some ds) (i : Nat) {A' : Fo} {H' : Hp} (l : Le A H A' H') (kp' : KpH F H') {k : Sk} {a : Addr} {xs : List V} (ev : v = .ref a) (sq : SqS K k H a xs) :
    ∃ k' xs', SqS K k' H' a xs' ∧ RDs K A' H' xs' ds := by
  obtain ⟨k', a', xs', q1, q2, q3⟩ := (r.mono l).src kp' e
  rw [ev] at q1; cases q1
  exact ⟨k', xs', q2, q3⟩
theorem SR.kind {K : PySem.W.Frag} {A : Fo} {H : Hp} {v : V} {d : D} {ds : List D} (r : SR K F A H v d) (kp : KpH F H) (e : itL d = some ds) : ∃ k a, v = .ref a ∧ ∀ A' H', Le A H A' H' → KpH F H' → ∃ xs, SqS K k H' a xs ∧ RDs K A' H' xs ds := by
  obtain ⟨k, a, xs, ev, q2, q3⟩ := r.src kp e
  have dk : (d = .list ds ∧ k = .L) ∨ (d = .tuple ds ∧ k = .T) ∨ (∃ d', d = .list d') ∨ ∃ d', d = .tuple d' := by
    cases d <;> first | (cases e; done) | exact .inr (.inr (.inl ⟨_, rfl⟩)) | exact .inr (.inr (.inr ⟨_, rfl⟩))
  have dk : (d = .list ds) ∨ (d = .tuple ds) := by
    cases d <;> first | (cases e; done) | (cases e; exact .inl rfl) | (cases e; exact .inr rfl)
  rcases dk with dk | dk
  · subst dk
    refine ⟨.L, a, ev, fun A' H' l kp' => ?_⟩
    rcases r.mono l with h | ⟨a', ev', h⟩
    · obtain ⟨a', xs', z1, z2, z3⟩ := (RB.rd h).lst
      rw [ev] at z1; cases z1
      exact ⟨xs', z2, z3⟩
    · rw [ev] at ev'; cases ev'
      obtain ⟨xs', h, q⟩ := h
      refine ⟨xs', ?_, q⟩
      rcases h with ⟨h | ⟨o, h⟩, n⟩ | h
      · exact .inl (.inl (kp' _ _ h rfl n))
      · exact .inl (.inr ⟨o, kp' _ _ h rfl n⟩)
      · exact sqL_K h
  · subst dk
    refine ⟨.T, a, ev, fun A' H' l kp' => ?_⟩
    rcases r.mono l with h | ⟨a', ev', h⟩
    · obtain ⟨a', xs', z1, z2, z3⟩ := (RB.rd h).tup
      rw [ev] at z1; cases z1
      exact ⟨xs', z2, z3⟩
    · exact h.elim
def iSeqM (me : M Op) : M (List D) := fun ρ => (mKi me ρ).bind fun d ρ1 => opt ρ1 (itL d)
theorem itOk_seq {K : PySem.W.Frag} {A : Fo} {H : Hp} {k : Sk} {a : Addr} {ds : List D} (h : ∀ A' H', Le A H A' H' → KpH F H' → ∃ xs, SqS K k H' a xs ∧ RDs K A' H' xs ds) :
    ItOk K F A H (match k with | .L => Itl K a | .T => Itt K a) ds := by
  intro i A' H' l fb kp
  obtain ⟨xs, sq, rs⟩ := h A' H' l kp
  cases k with
  | L =>
    refine ⟨fun d hd => ?_, fun hl => ⟨xs, sq, by rw [rs.length, hl]; exact Nat.le_refl _⟩⟩
    obtain ⟨x, hx, rx⟩ := rs.get hd
    refine ⟨⟨xs, x, sq, hx⟩, fun y H2 ⟨e, q⟩ => ?_⟩
    have z := q xs sq
    rw [hx] at z; cases z
    subst e
    exact ⟨fun _ _ h => h, rx⟩
  | T =>
    refine ⟨fun d hd => ?_, fun hl => ⟨xs, sq, by rw [rs.length, hl]; exact Nat.le_refl _⟩⟩
    obtain ⟨x, hx, rx⟩ := rs.get hd
    refine ⟨⟨xs, x, sq, hx⟩, fun y H2 ⟨e, q⟩ => ?_⟩
    have z := q xs sq
    rw [hx] at z; cases z
    subst e
    exact ⟨fun _ _ h => h, rx⟩
theorem qi_seq (h : QE X F e me) : QI X F tg e (iSeqM me) := by
  refine (pi_any (liftKi_ h)).imp fun σ H Q ⟨T, ρ, R, h⟩ => ⟨T, ρ, R, ?_⟩
  unfold iSeqM at h
  cases e1 : mKi me ρ with
  | no => rw [e1] at h; exact h.elim
  | er x ρ' => rw [e1] at h; exact h
  | ok d ρ1 =>
    rw [e1] at h
    intro v H1 R1 x1 r1
    have h : GI X.K F T H σ ρ Q (opt ρ1 (itL d)) := h
    cases e2 : itL d with
    | none => rw [e2] at h; exact h.elim
    | some ds =>
      rw [e2] at h
      obtain ⟨k, a, ev, q⟩ := r1.kind R1.keep e2
      obtain ⟨xs, sq, _⟩ := q _ _ (Le.refl _ _) R1.keep
      have z := itOk_seq q
      cases k with
      | L => exact .inl ⟨a, xs, ev, sq, h _ H1 R1 x1 z⟩
      | T => exact .inr ⟨a, xs, ev, sq, h _ H1 R1 x1 z⟩
def rngD (lo : Int) (n : Nat) : List D := (List.range n).map fun (i : Nat) => PyData.int (lo + i)
def bnd (i : Int) : Bool := decide (-(2 ^ 62) ≤ i) && decide (i < 2 ^ 62)
def rng1 : List D → Option (List D)
  | [.int j] => if bnd j then some (rngD 0 j.toNat) else none
  | _ => none
def rng2 : List D → Option (List D)
  | [.int i, .int j] => if bnd i && bnd j then some (rngD i (j - i).toNat) else none
  | _ => none
def iFn (f : List D → Option (List D)) (as : M (List Op)) : M (List D) := fun ρ => (as ρ).bind fun xs ρ1 => opt ρ1 ((rds ρ1 xs).bind f)
theorem itOk_rng {K : PySem.W.Frag} {A : Fo} {H : Hp} (lo : Int) (n : Nat) : ItOk K F A H (Itr lo n) (rngD lo n) := by
  intro i A' H' l fb kp
  refine ⟨fun d hd => ?_, fun hl => ?_⟩
  · unfold rngD at hd
    rw [List.getElem?_map] at hd
    cases q : (List.range n)[i]? with
    | none => rw [q] at hd; cases hd
    | some j =>
      rw [q] at hd
      obtain ⟨hi, hj⟩ := List.getElem?_eq_some_iff.mp q
      rw [List.getElem_range] at hj
      subst hj
      cases hd
      refine ⟨(show i < n by simpa using hi), fun x H2 ⟨e1, e2⟩ => ?_⟩
      subst e1; subst e2
      exact ⟨fun _ _ h => h, .int _⟩
  · have : n = i := by simpa [rngD] using hl
    exact Nat.le_of_eq this
theorem qi_range1 {a : Expr} (hg : Gl X "range") (hm : X.mg "range" = none) (ha : QA X F [a] mas) (hs : starEach [a] X.env = [(false, eval a X.env)] := by rfl) : QI X F tg (.Call (.Name "range" p) [a] [] pos) (iFn rng1 mas) := by
  refine (pi_range1 hg hm ha hs).imp fun σ H Q ⟨T, ρ, R, h⟩ => ⟨T, ρ, R, ?_⟩
  unfold iFn at h
  cases e1 : mas ρ with
  | no => rw [e1] at h; exact h.elim
  | er x ρ' => rw [e1] at h; exact h
  | ok xs ρ1 =>
    rw [e1] at h
    intro T1 vs H1 t n R1 x1 q1
    have h : GI X.K F T H σ ρ Q (opt ρ1 ((rds ρ1 xs).bind rng1)) := h
    cases e2 : rds ρ1 xs with
    | none => rw [e2] at h; exact h.elim
    | some ds =>
      rw [e2] at h
      have h : GI X.K F T H σ ρ Q (opt ρ1 (rng1 ds)) := h
      have rb := q1.rbs R1 e2
      cases rb with
      | nil => exact h.elim
      | @cons v1 vs1 d ds r1 rr =>
        cases rr with
        | cons _ _ => cases d <;> exact h.elim
        | nil =>
          cases d with
          | int j =>
            cases r1.int
            have h : GI X.K F T H σ ρ Q (opt ρ1 (if bnd j then some (rngD 0 j.toNat) else none)) := h
            by_cases c : bnd j = true
            · rw [if_pos c] at h
              unfold bnd at c
              simp only [Bool.and_eq_true, decide_eq_true_eq] at c
              exact ⟨j, rfl, c.1, c.2, h _ H1 (R1.less t) x1 (itOk_rng 0 _)⟩
            · rw [if_neg c] at h; exact h.elim
          | _ => exact h.elim
theorem qi_range2 {a b : Expr} (hg : Gl X "range") (hm : X.mg "range" = none) (ha : QA X F [a, b] mas) (hs : starEach [a, b] X.env = [(false, eval a X.env), (false, eval b X.env)] := by rfl) (hs2 : starEach [b] X.env = [(false, eval b X.env)] := by rfl) : QI X F tg (.Call (.Name "range" p) [a, b] [] pos) (iFn rng2 mas) := by
  refine (pi_range2 hg hm ha hs hs2).imp fun σ H Q ⟨T, ρ, R, h⟩ => ⟨T, ρ, R, ?_⟩
  unfold iFn at h
  cases e1 : mas ρ with
  | no => rw [e1] at h; exact h.elim
  | er x ρ' => rw [e1] at h; exact h
  | ok xs ρ1 =>
    rw [e1] at h
    intro T1 vs H1 t n R1 x1 q1
    have h : GI X.K F T H σ ρ Q (opt ρ1 ((rds ρ1 xs).bind rng2)) := h
    cases e2 : rds ρ1 xs with
    | none => rw [e2] at h; exact h.elim
    | some ds =>
      rw [e2] at h
      have h : GI X.K F T H σ ρ Q (opt ρ1 (rng2 ds)) := h
      have rb := q1.rbs R1 e2
      cases rb with
      | nil => exact h.elim
      | @cons v1 vs1 d ds r1 rr =>
        cases rr with
        | nil => cases d <;> exact h.elim
        | @cons v2 vs2 d2 ds2 r2 rr =>
          cases rr with
          | cons _ _ => cases d <;> cases d2 <;> exact h.elim
          | nil =>
            cases d with
            | int i =>
              cases d2 with
              | int j =>
                cases r1.int
                cases r2.int
                have h : GI X.K F T H σ ρ Q (opt ρ1 (if bnd i && bnd j then some (rngD i (j - i).toNat) else none)) := h
                by_cases c : (bnd i && bnd j) = true
                · rw [if_pos c] at h
                  unfold bnd at c
                  simp only [Bool.and_eq_true, decide_eq_true_eq] at c
                  exact ⟨i, j, rfl, ⟨c.1.1, c.1.2, c.2.1, c.2.2⟩, h _ H1 (R1.less t) x1 (itOk_rng i _)⟩
                · rw [if_neg c] at h; exact h.elim
              | _ => exact h.elim
            | _ => exact h.elim
def enumD (i : Nat) : List D → List D
  | [] => []
  | d :: r => .tuple [.int i, d] :: enumD (i + 1) r
def zipD (xs ys : List D) : List D := List.zipWith (fun a b => PyData.tuple [a, b]) xs ys
theorem enumD_get : ∀ (ds : List D) (i j : Nat), (enumD i ds)[j]? = ds[j]?.map fun d => PyData.tuple [.int ((i + j : Nat) : Int), d]
  | [], _, _ => rfl
  | d :: r, i, 0 => rfl
  | d :: r, i, j + 1 => by
    show (enumD (i + 1) r)[j]? = _
    rw [enumD_get r (i + 1) j, List.getElem?_cons_succ]
    have : i + 1 + j = i + (j + 1) := by omega
    rw [this]
theorem enumD_len : ∀ (ds : List D) (i : Nat), (enumD i ds).length = ds.length
  | [], _ => rfl
  | d :: r, i => congrArg (· + 1) (enumD_len r (i + 1))
def enm : List D → Option (List D)
  | [d] => (itL d).map (enumD 0)
  | _ => none
def zp : List D → Option (List D)
  | [a, b] => (itL a).bind fun xs => (itL b).map fun ys => zipD xs ys
  | _ => none
def iFnK (f : List D → Option (List D)) (as : M (List D)) : M (List D) := fun ρ => (as ρ).bind fun xs ρ1 => opt ρ1 (f xs)
theorem rd_pair {K : PySem.W.Frag} {A : Fo} {H : Hp} {T : Addr} {x y : V} {a b : D} (hn : H T = none) (fb : ∀ b, A b → H b ≠ none) (rx : RD K A H x a) (ry : RD K A H y b) : (∀ c o, H c = some o → upd H T (.tup [x, y]) c = some o) ∧ RD K A (upd H T (.tup [x, y])) (.ref T) (.tuple [a, b]) :=
  have g := upd_grow (o := .tup [x, y]) hn
  ⟨g, .tupH (.inl upd_same) (fun z => fb T z hn) (.cons (RD.mono (Le.same g) _ _ rx) (.cons (RD.mono (Le.same g) _ _ ry) .nil))⟩
theorem itOk_enum {K : PySem.W.Frag} {A : Fo} {H : Hp} {k : Sk} {a : Addr} {ds : List D} (h : ∀ A' H', Le A H A' H' → KpH F H' → ∃ xs, SqS K k H' a xs ∧ RDs K A' H' xs ds) : ItOk K F A H (ItE K k a) (enumD 0 ds) := by
  intro i A' H' l fb kp
  obtain ⟨xs, sq, rs⟩ := h A' H' l kp
  refine ⟨fun d hd => ?_, fun hl => ⟨xs, sq, by rw [rs.length, ← enumD_len ds 0, hl]⟩⟩
  rw [enumD_get, Nat.zero_add] at hd
  cases q : ds[i]? with
  | none => rw [q] at hd; cases hd
  | some c =>
    rw [q] at hd
    cases hd
    obtain ⟨x, hx, rx⟩ := rs.get q
    refine ⟨⟨xs, x, sq, hx⟩, fun y H2 ⟨T, x', e1, e2, e3, e4⟩ => ?_⟩
    have z := e4 xs sq
    rw [hx] at z; cases z
    subst e1; subst e3
    exact rd_pair e2 fb (.int _) rx
theorem itOk_zip {K : PySem.W.Frag} {A : Fo} {H : Hp} {k k' : Sk} {a b : Addr} {ds es : List D} (h : ∀ A' H', Le A H A' H' → KpH F H' → ∃ xs, SqS K k H' a xs ∧ RDs K A' H' xs ds) (h' : ∀ A' H', Le A H A' H' → KpH F H' → ∃ xs, SqS K k' H' b xs ∧ RDs K A' H' xs es) :
    ItOk K F A H (ItZ K k k' a b) (zipD ds es) := by
  intro i A' H' l fb kp
  obtain ⟨xs, sq, rs⟩ := h A' H' l kp
  obtain ⟨ys, sq', rs'⟩ := h' A' H' l kp
  refine ⟨fun d hd => ?_, fun hl => ⟨xs, ys, sq, sq', by rw [rs.length, rs'.length]; simpa [zipD] using hl⟩⟩
  unfold zipD at hd
  rw [List.getElem?_zipWith] at hd
  cases q : ds[i]? with
  | none => rw [q] at hd; cases hd
  | some c =>
    cases q' : es[i]? with
    | none => rw [q, q'] at hd; cases hd
    | some c' =>
      rw [q, q'] at hd
      cases hd
      obtain ⟨x, hx, rx⟩ := rs.get q
      obtain ⟨y, hy, ry⟩ := rs'.get q'
      refine ⟨⟨xs, ys, x, y, sq, sq', hx, hy⟩, fun v H2 ⟨T, x', y', e1, e2, e3, e4, e5⟩ => ?_⟩
      have z := e4 xs sq
      rw [hx] at z; cases z
      have z := e5 ys sq'
      rw [hy] at z; cases z
      subst e1; subst e3
      exact rd_pair e2 fb rx ry
theorem pi_enumS {elts : List Expr} {kk : Nat} {ta : TA} (hg : Gl X "enumerate") (hm : X.mg "enumerate" = none) (ha : PA X [e] ta) (hs : starEach [e] X.env = [(false, eval e X.env)] := by rfl) :
    PI X (.Tuple elts kk tpos) (.Call (.Name "enumerate" p) [e] [] pos) (fun σ H R => ta σ H fun vs H1 => ∃ k a xs, vs = [.ref a] ∧ SqS X.K k H1 a xs ∧ R (ItE X.K k a) H1) := by
  constructor
  intro pins s σ H R I h
  refine PyProof.Rows.Call_ (ld_blt I hg hm PyProof.Rows.boot_enumerate (PyProof.Rows.callWith_type1 (thn (ha.run pos pins s σ H _ I h) fun us s1 ⟨vs, H1, I1, r1, q1⟩ => ?_) hs rfl))
  obtain ⟨k, a, xs, ex, hq, q⟩ := q1
  subst ex
  obtain rfl := Vals.ref1 r1
  obtain ⟨its, rv, pl, hz⟩ := srcI I1 hq
  refine enum_new (begS k a its.toArray) pl fun h' he hit hk => wpAny_pyIter_enum he ?_
  have hlt : a < s1.heap.objs.size := by
    cases k
    · obtain ⟨o, e, _⟩ := pl; exact Heap.lt_size e
    · obtain ⟨o, e, _⟩ := pl; exact Heap.lt_size e
  refine ⟨_, [s1.heap.objs.size + 1, s1.heap.objs.size], _, _, H1, rfl, Inv.kept (t' := s1.toks) I1 hk, turnE k a _ s1.heap.objs.size (Nat.succ_ne_self _) (Nat.ne_of_gt (Nat.lt_succ_of_lt hlt)) (Nat.ne_of_gt hlt), ⟨⟨.none, he⟩, itS0 hit⟩, fun b hb => ?_, q⟩
  have hle : s1.heap.objs.size ≤ b := by
    rcases List.mem_cons.mp hb with z | z
    · rw [z]; exact Nat.le_succ _
    · rw [List.mem_singleton.mp z]; exact Nat.le_refl _
  exact I1.fpOk hle (I1.hok.fresh hle)
theorem qi_enum {elts : List Expr} {kk : Nat} (hg : Gl X "enumerate") (hm : X.mg "enumerate" = none) (ha : QKis X F [e] mks) (hs : starEach [e] X.env = [(false, eval e X.env)] := by rfl) :
    QI X F (.Tuple elts kk tpos) (.Call (.Name "enumerate" p) [e] [] pos) (iFnK enm mks) := by
  refine (pi_enumS hg hm ha hs).imp fun σ H Q ⟨T, ρ, R, h⟩ => ⟨T, ρ, R, ?_⟩
  unfold iFnK at h
  cases e1 : mks ρ with
  | no => rw [e1] at h; exact h.elim
  | er x ρ' => rw [e1] at h; exact h
  | ok ds ρ1 =>
    rw [e1] at h
    intro vs H1 R1 x1 q1
    have h : GI X.K F T H σ ρ Q (opt ρ1 (enm ds)) := h
    cases q1 with
    | nil => exact h.elim
    | @cons v1 vs1 d ds r1 rr =>
      cases rr with
      | cons _ _ => exact h.elim
      | nil =>
        have h : GI X.K F T H σ ρ Q (opt ρ1 ((itL d).map (enumD 0))) := h
        cases e2 : itL d with
        | none => rw [e2] at h; exact h.elim
        | some es =>
          rw [e2] at h
          obtain ⟨k, a, ev, q⟩ := r1.kind R1.keep e2
          obtain ⟨xs, sq, _⟩ := q _ _ (Le.refl _ _) R1.keep
          exact ⟨k, a, xs, by rw [ev], sq, h _ H1 R1 x1 (itOk_enum q)⟩
theorem pi_zipS {e2 : Expr} {elts : List Expr} {kk : Nat} {ta : TA} (hg : Gl X "zip") (hm : X.mg "zip" = none) (ha : PA X [e, e2] ta) (hs : starEach [e, e2] X.env = [(false, eval e X.env), (false, eval e2 X.env)] := by rfl) (hs2 : starEach [e2] X.env = [(false, eval e2 X.env)] := by rfl) :
    PI X (.Tuple elts kk tpos) (.Call (.Name "zip" p) [e, e2] [] pos) (fun σ H R => ta σ H fun vs H1 => ∃ k k' a b xs ys, vs = [.ref a, .ref b] ∧ SqS X.K k H1 a xs ∧ SqS X.K k' H1 b ys ∧ R (ItZ X.K k k' a b) H1) := by
  constructor
  intro pins s σ H R I h
  refine PyProof.Rows.Call_ (ld_blt I hg hm PyProof.Rows.boot_zip (PyProof.Rows.callWith_type1 (thn (ha.run pos pins s σ H _ I h) fun us s1 ⟨vs, H1, I1, r1, q1⟩ => ?_) (by rw [hs, hs2]) (by rw [hs2]; rfl)))
  obtain ⟨k, k', a, b, xs, ys, ex, hq, hr, q⟩ := q1
  subst ex
  obtain ⟨u, u', e3, ru, ru'⟩ := vals2 r1
  subst e3; cases ru; cases ru'
  obtain ⟨its, rv, pl, hz⟩ := srcI I1 hq
  obtain ⟨jts, rw', pl', hz'⟩ := srcI I1 hr
  have lt_ : ∀ (k : Sk) (a : Addr) (its : Array Value), IsS k s1.heap a its → a < s1.heap.objs.size := fun k a its pl => by
    cases k
    · obtain ⟨o, e, _⟩ := pl; exact Heap.lt_size e
    · obtain ⟨o, e, _⟩ := pl; exact Heap.lt_size e
  have la := lt_ k a _ pl
  have lb := lt_ k' b _ pl'
  refine zip_begins2 (begS k a its.toArray) (begS k' b jts.toArray) pl pl' fun h' g1 g2 g3 g4 g5 _ hk => wpAny_pyIter_zip g1 ?_
  have S : ZSep (s1.heap.objs.size + 4) (s1.heap.objs.size + 2) (s1.heap.objs.size + 3) s1.heap.objs.size (s1.heap.objs.size + 1) a b :=
    ⟨zip_sep2 (fun c hc => by rw [List.mem_singleton.mp hc]; exact la) (fun c hc => by rw [List.mem_singleton.mp hc]; exact lb), Nat.ne_of_lt la, Nat.ne_of_lt (Nat.lt_succ_of_lt lb)⟩
  refine ⟨_, [s1.heap.objs.size + 4, s1.heap.objs.size + 2, s1.heap.objs.size + 3, s1.heap.objs.size, s1.heap.objs.size + 1], _, _, H1, rfl, Inv.kept (t' := s1.toks) I1 hk, turnZ S, ⟨g1, g2, ⟨_, _, g3⟩, itS0 g4, itS0 g5⟩, fun c hc => ?_, q⟩
  have hle : s1.heap.objs.size ≤ c := by
    simp only [List.mem_cons, List.not_mem_nil, or_false] at hc
    rcases hc with rfl | rfl | rfl | rfl | rfl
    · exact Nat.le_add_right _ _
    · exact Nat.le_add_right _ _
    · exact Nat.le_add_right _ _
    · exact Nat.le_refl _
    · exact Nat.le_add_right _ _
  exact I1.fpOk hle (I1.hok.fresh hle)
theorem qi_zip {e2 : Expr} {elts : List Expr} {kk : Nat} (hg : Gl X "zip") (hm : X.mg "zip" = none) (ha : QKis X F [e, e2] mks) (hs : starEach [e, e2] X.env = [(false, eval e X.env), (false, eval e2 X.env)] := by rfl) (hs2 : starEach [e2] X.env = [(false, eval e2 X.env)] := by rfl) :
    QI X F (.Tuple elts kk tpos) (.Call (.Name "zip" p) [e, e2] [] pos) (iFnK zp mks) := by
  refine (pi_zipS hg hm ha hs hs2).imp fun σ H Q ⟨T, ρ, R, h⟩ => ⟨T, ρ, R, ?_⟩
  unfold iFnK at h
  cases e1 : mks ρ with
  | no => rw [e1] at h; exact h.elim
  | er x ρ' => rw [e1] at h; exact h
  | ok ds ρ1 =>
    rw [e1] at h
    intro vs H1 R1 x1 q1
    have h : GI X.K F T H σ ρ Q (opt ρ1 (zp ds)) := h
    cases q1 with
    | nil => exact h.elim
    | @cons v1 vs1 d ds r1 rr =>
      cases rr with
      | nil => exact h.elim
      | @cons v2 vs2 d2 ds2 r2 rr =>
        cases rr with
        | cons _ _ => exact h.elim
        | nil =>
          have h : GI X.K F T H σ ρ Q (opt ρ1 ((itL d).bind fun xs => (itL d2).map fun ys => zipD xs ys)) := h
          cases e2 : itL d with
          | none => rw [e2] at h; exact h.elim
          | some es =>
            cases e3 : itL d2 with
            | none => rw [e2, e3] at h; exact h.elim
            | some es2 =>
              rw [e2, e3] at h
              obtain ⟨k, a, ev, q⟩ := r1.kind R1.keep e2
              obtain ⟨k', b, ev', q'⟩ := r2.kind R1.keep e3
              obtain ⟨xs, sq, _⟩ := q _ _ (Le.refl _ _) R1.keep
              obtain ⟨ys, sq', _⟩ := q' _ _ (Le.refl _ _) R1.keep
              exact ⟨k, k', a, b, xs, ys, by rw [ev, ev'], sq, sq', h _ H1 R1 x1 (itOk_zip q q')⟩
end
end Vx
set_option maxHeartbeats 2000000
namespace Vx
open PySem PySem.Spec L2
section
variable {K : PySem.W.Frag} {F : Fc} {t : Tg} {ws : List Nat} {body : M Fl} {it : M (List D)} {mc : M Bool}
theorem liftFor {D : Ends} {σ : St} {H : Hp} (h : liftS K F (sFor it t body) D σ H) : tFor (liftI K F it) (liftG K F t ws) (liftS K F body) D σ H := by
  obtain ⟨ρ, R, h⟩ := h
  refine ⟨noT, ρ, R, ?_⟩
  unfold sFor at h
  cases e1 : it ρ with
  | no => rw [e1] at h; exact h.elim
  | er x ρ' => rw [e1] at h; exact ErS.toP h
  | ok ds ρ1 =>
    rw [e1] at h
    rw [Rs.bind_ok] at h
    intro J H1 R1 x1 ok
    refine ⟨fun i m σ' H' => m = ds.length - i ∧ i ≤ ds.length ∧ ∃ ρ', Rel K F noT H' σ' ρ' ∧ Le (Fb F noT σ ρ1) H1 (Fb F noT σ' ρ') H' ∧ GS K F H' σ' ρ' D (forI t body (ds.drop i) ρ'),
      ⟨ds.length, rfl, Nat.zero_le _, ρ1, R1, Le.refl _ _, h.back x1⟩, ?_⟩
    rintro i m σ2 H2 ⟨rfl, hi, ρ2, R2, l2, g2⟩
    obtain ⟨go, stop⟩ := ok i _ H2 l2 (fun b z => R2.fbd z) R2.keep
    by_cases hlt : i < ds.length
    · refine .inr ?_
      have ed : ds.drop i = ds[i] :: ds.drop (i + 1) := List.drop_eq_getElem_cons hlt
      obtain ⟨hgo, hy⟩ := go ds[i] (List.getElem?_eq_getElem hlt)
      rw [ed] at g2
      refine ⟨hgo, fun σ' H' => ∃ ρ', Rel K F noT H' σ' ρ' ∧ Le (Fb F noT σ ρ1) H1 (Fb F noT σ' ρ') H' ∧ GS K F H' σ' ρ' D (forI t body (ds.drop (i + 1)) ρ'), fun σ' H' n => ⟨ds.length - (i + 1), by omega, rfl, hlt, n⟩, fun x H3 y => ?_⟩
      obtain ⟨gr, rx⟩ := hy x H3 y
      have R3 := R2.grow gr
      have x3 : Ext σ2 ρ2 H2 σ2 ρ2 H3 := Ext.grow gr
      have g2 : GS K F H2 σ2 ρ2 D (match t ds[i] ρ2 with
        | none => .no
        | some ρ1 => (body ρ1).bind fun f ρ2 => match f with
          | .nx => forI t body (ds.drop (i + 1)) ρ2
          | .ct => forI t body (ds.drop (i + 1)) ρ2
          | .bk => .ok .nx ρ2
          | .rt x => .ok (.rt x) ρ2) := g2
      cases e2 : t ds[i] ρ2 with
      | none => rw [e2] at g2; exact g2.elim
      | some ρ3 =>
        rw [e2] at g2
        dsimp only at g2
        refine ⟨noT, ρ2, ds[i], R3, rx, ρ3, e2, fun σ4 H4 R4 x4 _ => ⟨ρ3, R4, ?_⟩⟩
        have x24 : Ext σ2 ρ2 H2 σ4 ρ3 H4 := x3.trans x4
        cases e3 : body ρ3 with
        | no => rw [e3] at g2; exact g2.elim
        | er z ρ' => rw [e3] at g2; exact ErS.back (show ErS K F H2 σ2 ρ2 z ρ' from g2) x24
        | ok f ρ4 =>
          rw [e3] at g2
          rw [Rs.bind_ok] at g2
          have nxt : GS K F H2 σ2 ρ2 D (forI t body (ds.drop (i + 1)) ρ4) → ∀ σ' H', Rel K F noT H' σ' ρ4 → Ext σ4 ρ3 H4 σ' ρ4 H' → ∃ ρ', Rel K F noT H' σ' ρ' ∧ Le (Fb F noT σ ρ1) H1 (Fb F noT σ' ρ') H' ∧ GS K F H' σ' ρ' D (forI t body (ds.drop (i + 1)) ρ') := fun g σ' H' R' x' =>
            ⟨ρ4, R', l2.trans ((x24.trans x').fb fun _ z => .inl z), g.back (x24.trans x')⟩
          cases f with
          | nx => exact nxt g2
          | ct => exact nxt g2
          | bk => exact fun σ' H' R' x' => g2 σ' H' R' (x24.trans x')
          | rt op => exact fun σ' v H' p => g2 σ' v H' (p.back x24)
    · have en : ds.length = i := by omega
      refine .inl ⟨stop en, ?_⟩
      rw [List.drop_eq_nil_of_le (Nat.le_of_eq en)] at g2
      exact g2 σ2 H2 R2 (Ext.refl ..)
def sWhile (n : Nat) (c : M Bool) (body : M Fl) : M Fl := whI c body n
theorem liftWhile {n : Nat} {D : Ends} {σ : St} {H : Hp} (h : liftS K F (sWhile n mc body) D σ H) : tWhile (liftT K F mc) (liftS K F body) D σ H := by
  obtain ⟨ρ, R, h⟩ := h
  refine ⟨fun m σ H => ∃ ρ, Rel K F noT H σ ρ ∧ GS K F H σ ρ D (whI mc body m ρ), ⟨n, ρ, R, h⟩, ?_⟩
  rintro m σ1 H1 ⟨ρ1, R1, g⟩
  refine ⟨noT, ρ1, R1, ?_⟩
  cases m with
  | zero => exact g.elim
  | succ m =>
    unfold whI at g
    cases e1 : mc ρ1 with
    | no => rw [e1] at g; exact g.elim
    | er x ρ' => rw [e1] at g; exact ErS.toP g
    | ok k ρ2 =>
      rw [e1] at g
      rw [Rs.bind_ok] at g
      intro H2 R2 x2
      cases k with
      | false =>
        rw [if_neg Bool.false_ne_true] at g ⊢
        exact g σ1 H2 R2 x2
      | true =>
        rw [if_pos rfl] at g ⊢
        refine ⟨fun σ' H' => ∃ ρ', Rel K F noT H' σ' ρ' ∧ GS K F H' σ' ρ' D (whI mc body m ρ'), fun σ' H' q => ⟨m, Nat.lt_succ_self m, q⟩, ρ2, R2, ?_⟩
        cases e2 : body ρ2 with
        | no => rw [e2] at g; exact g.elim
        | er x ρ' => rw [e2] at g; exact ErS.back (show ErS K F H1 σ1 ρ1 x ρ' from g) x2
        | ok f ρ3 =>
          rw [e2] at g
          rw [Rs.bind_ok] at g
          cases f with
          | nx => exact fun σ' H' R' x' => ⟨ρ3, R', g.back (x2.trans x')⟩
          | ct => exact fun σ' H' R' x' => ⟨ρ3, R', g.back (x2.trans x')⟩
          | bk => exact fun σ' H' R' x' => g σ' H' R' (x2.trans x')
          | rt op => exact fun σ' v H' p => g σ' v H' (p.back x2)
end
section
variable {X : Cx} {F : Fc} {pos : Pos} {tg iter c : Expr} {bd : List Stmt} {t : Tg} {ws : List Nat} {body : M Fl} {it : M (List D)} {mc : M Bool}
theorem qs_for (hp : PassesOwn (model X.prog X.w) X.A X.env X.xe) (hc : X.calm = true) (hi : QI X F tg iter it) (hg : QG X F tg t ws) (hb : QSs X F bd body) (hs : ∀ x, foldedSetIterable iter X.env x = pure x := by intro _; rfl) :
    QS X F (.For tg iter bd [] pos) (sFor it t body) := (ps_for hp hc hi hg hb hs).imp fun _ _ _ h => liftFor h
theorem qs_while (n : Nat) (hp : PassesOwn (model X.prog X.w) X.A X.env X.xe) (hc : QT X F c mc) (hb : QSs X F bd body) : QS X F (.While c bd [] pos) (sWhile n mc body) := (ps_while hp hc hb).imp fun _ _ _ h => liftWhile h
end
theorem unS_len (ρ : Ev) : ∀ vs, (unS ρ vs).length = ρ.length
  | [] => rfl
  | v :: vs => by unfold unS; rw [List.length_set, unS_len ρ vs]
theorem bkS_len (ρ ρ' : Ev) : ∀ vs, (bkS ρ ρ' vs).length = ρ'.length
  | [] => rfl
  | v :: vs => by unfold bkS; rw [List.length_set, bkS_len ρ ρ' vs]
theorem unS_in (ρ : Ev) {i : Nat} (hi : i < ρ.length) : ∀ {vs}, i ∈ vs → (unS ρ vs)[i]? = some .un
  | v :: vs, h => by
    unfold unS
    by_cases e : v = i
    · subst e; rw [List.getElem?_set_self (by rw [unS_len]; exact hi)]
    · rw [List.getElem?_set_ne e]
      exact unS_in ρ hi ((List.mem_cons.mp h).resolve_left (Ne.symm e))
theorem unS_out (ρ : Ev) {i : Nat} : ∀ {vs}, i ∉ vs → (unS ρ vs)[i]? = ρ[i]?
  | [], _ => rfl
  | v :: vs, h => by
    unfold unS
    rw [List.getElem?_set_ne fun e => h (by rw [e]; exact List.mem_cons_self)]
    exact unS_out ρ fun z => h (List.mem_cons_of_mem _ z)
theorem bkS_in (ρ ρ' : Ev) {i : Nat} (hi : i < ρ'.length) : ∀ {vs}, i ∈ vs → (bkS ρ ρ' vs)[i]? = some (ρ[i]?.getD .un)
  | v :: vs, h => by
    unfold bkS
    by_cases e : v = i
    · subst e; rw [List.getElem?_set_self (by rw [bkS_len]; exact hi)]
    · rw [List.getElem?_set_ne e]
      exact bkS_in ρ ρ' hi ((List.mem_cons.mp h).resolve_left (Ne.symm e))
theorem bkS_out (ρ ρ' : Ev) {i : Nat} : ∀ {vs}, i ∉ vs → (bkS ρ ρ' vs)[i]? = ρ'[i]?
  | [], _ => rfl
  | v :: vs, h => by
    unfold bkS
    rw [List.getElem?_set_ne fun e => h (by rw [e]; exact List.mem_cons_self)]
    exact bkS_out ρ ρ' fun z => h (List.mem_cons_of_mem _ z)
theorem wipe_in (σ : St) {i : Nat} (hi : i < σ.length) : ∀ {vs}, i ∈ vs → (wipe σ vs)[i]? = some none
  | v :: vs, h => by
    unfold wipe
    by_cases e : v = i
    · subst e; rw [List.getElem?_set_self (by rw [wipe_length]; exact hi)]
    · rw [List.getElem?_set_ne e]
      exact wipe_in σ hi ((List.mem_cons.mp h).resolve_left (Ne.symm e))
section
variable {K : PySem.W.Frag} {F : Fc} {T T' : Fo} {H H' : Hp} {σ : St} {ρ ρ' : Ev} {vs : List Nat}
theorem os_wipe {b : Addr} (h : OS (wipe σ vs) (unS ρ vs) b) : OS σ ρ b := by
  obtain ⟨i, h1, h2⟩ := h
  by_cases hv : i ∈ vs
  · by_cases hl : i < ρ.length
    · rw [unS_in ρ hl hv] at h1; cases h1
    · rw [List.getElem?_eq_none (by rw [unS_len]; omega)] at h1; cases h1
  · rw [unS_out ρ hv] at h1
    rw [wipe_out hv] at h2
    exact ⟨i, h1, h2⟩
theorem Rel.wipe (R : Rel K F T H σ ρ) : Rel K F T H (wipe σ vs) (unS ρ vs) := by
  have fl : ∀ b, Fb F T (L2.wipe σ vs) (unS ρ vs) b → Fb F T σ ρ b := fun b z => z.elim .inl fun z => z.elim (fun z => .inr (.inl z)) fun z => .inr (.inr (os_wipe z))
  have l : Le (Fb F T σ ρ) H (Fb F T (L2.wipe σ vs) (unS ρ vs)) H := Le.less fl
  have out : ∀ (i : Nat) s, (unS ρ vs)[i]? = some s → s ≠ .un → i ∉ vs ∧ ρ[i]? = some s := fun i s h n => by
    by_cases hv : i ∈ vs
    · have hl : i < ρ.length := by have := (List.getElem?_eq_some_iff.mp h).1; rwa [unS_len] at this
      rw [unS_in ρ hl hv] at h; cases h; exact absurd rfl n
    · rw [unS_out ρ hv] at h; exact ⟨hv, h⟩
  have own : ∀ (i : Nat), OwnS (unS ρ vs)[i]? = true → i ∉ vs ∧ OwnS ρ[i]? = true := fun i h => by
    obtain ⟨d, e | e⟩ := ownS_cases h
    · obtain ⟨a, b⟩ := out i _ e (fun z => nomatch z); exact ⟨a, by rw [b]; rfl⟩
    · obtain ⟨a, b⟩ := out i _ e (fun z => nomatch z); exact ⟨a, by rw [b]; rfl⟩
  refine ⟨by rw [unS_len, wipe_length]; exact R.len, fun i d e => ?_, fun i d e => ?_, fun i d e => ?_, fun i d e => ?_, fun i j b h1 h2 h3 h4 => ?_, R.keep, R.dom, R.tdom, R.tabs⟩
  · obtain ⟨hv, e⟩ := out i _ e (fun z => nomatch z)
    obtain ⟨v, q1, q2⟩ := R.cl i d e
    exact ⟨v, by rw [wipe_out hv]; exact q1, RD.mono l _ _ q2⟩
  · obtain ⟨hv, e⟩ := out i _ e (fun z => nomatch z)
    obtain ⟨v, q1, q2⟩ := R.bo i d e
    exact ⟨v, by rw [wipe_out hv]; exact q1, q2.mono l⟩
  · obtain ⟨hv, e⟩ := out i _ e (fun z => nomatch z)
    obtain ⟨v, q1, q2, q3⟩ := R.ow i d e
    exact ⟨v, by rw [wipe_out hv]; exact q1, q2.mono l (fun _ h => h), q3⟩
  · obtain ⟨hv, e⟩ := out i _ e (fun z => nomatch z)
    obtain ⟨v, q0, q1, q2, q3⟩ := R.le i d e
    exact ⟨v, q0, by rw [wipe_out hv]; exact q1, q2.mono l (fun _ h => h), q3⟩
  · obtain ⟨v1, o1⟩ := own i h1
    obtain ⟨v2, o2⟩ := own j h3
    rw [wipe_out v1] at h2
    rw [wipe_out v2] at h4
    exact R.inj i j b o1 h2 o2 h4
theorem wip_own {s : Option Sl} (h : wipable s = true) : OwnS s = false ∧ ∃ x, s = some x := by
  cases s with
  | none => cases h
  | some s => cases s <;> first | (cases h; done) | exact ⟨rfl, _, rfl⟩
theorem os_unwipe {ρ1 : Ev} (wp : ∀ v ∈ vs, wipable ρ1[v]? = true) (hl : ρ.length = ρ1.length) {b : Addr} (h : OS σ (bkS ρ1 ρ vs) b) : OS (wipe σ vs) (unS ρ vs) b := by
  obtain ⟨i, h1, h2⟩ := h
  by_cases hv : i ∈ vs
  · obtain ⟨e1, s, e2⟩ := wip_own (wp i hv)
    have hi : i < ρ.length := by rw [hl]; exact (List.getElem?_eq_some_iff.mp e2).1
    rw [bkS_in ρ1 ρ hi hv] at h1
    rw [e2] at e1
    rw [e2] at h1
    have h1 : OwnS (some s) = true := h1
    rw [e1] at h1; cases h1
  · rw [bkS_out ρ1 ρ hv] at h1
    exact ⟨i, by rw [unS_out ρ hv]; exact h1, by rw [wipe_out hv]; exact h2⟩
theorem os_same {ρ1 : Ev} (wp : ∀ v ∈ vs, wipable ρ1[v]? = true) {b : Addr} (h : OS σ ρ1 b) : OS (wipe σ vs) (unS ρ1 vs) b := by
  obtain ⟨i, h1, h2⟩ := h
  by_cases hv : i ∈ vs
  · rw [(wip_own (wp i hv)).1] at h1; cases h1
  · exact ⟨i, by rw [unS_out ρ1 hv]; exact h1, by rw [wipe_out hv]; exact h2⟩
/-- behind the block -/
theorem Rel.unwipe {ρ1 : Ev} {T1 : Fo} {H1 : Hp} (R1 : Rel K F T1 H1 σ ρ1) (wp : ∀ v ∈ vs, wipable ρ1[v]? = true) (R : Rel K F T H (L2.wipe σ vs) (unS ρ vs)) (l : Le (Fb F T1 σ ρ1) H1 (Fb F T (L2.wipe σ vs) (unS ρ vs)) H) : Rel K F T H σ (bkS ρ1 ρ vs) := by
  have hl : ρ.length = ρ1.length := by
    have := R.len
    rw [unS_len, wipe_length] at this
    rw [this, R1.len]
  have fl : ∀ b, Fb F T σ (bkS ρ1 ρ vs) b → Fb F T (L2.wipe σ vs) (unS ρ vs) b := fun b z => z.elim .inl fun z => z.elim (fun z => .inr (.inl z)) fun z => .inr (.inr (os_unwipe wp hl z))
  have l2 : Le (Fb F T (L2.wipe σ vs) (unS ρ vs)) H (Fb F T σ (bkS ρ1 ρ vs)) H := Le.less fl
  have l3 := l.trans l2
  have inn : ∀ (i : Nat) s, i ∈ vs → (bkS ρ1 ρ vs)[i]? = some s → ρ1[i]? = some s := fun i s hv e => by
    obtain ⟨_, x, e2⟩ := wip_own (wp i hv)
    have hi : i < ρ.length := by rw [hl]; exact (List.getElem?_eq_some_iff.mp e2).1
    rw [bkS_in ρ1 ρ hi hv, e2] at e
    rw [e2]; exact e
  have nown : ∀ (i : Nat), i ∈ vs → OwnS (bkS ρ1 ρ vs)[i]? = false := fun i hv => by
    cases q : (bkS ρ1 ρ vs)[i]? with
    | none => rfl
    | some s => rw [← inn i s hv q]; exact (wip_own (wp i hv)).1
  refine ⟨by rw [bkS_len, hl]; exact R1.len, fun i d e => ?_, fun i d e => ?_, fun i d e => ?_, fun i d e => ?_, fun i j b h1 h2 h3 h4 => ?_, R.keep, R.dom, R.tdom, R.tabs⟩
  · by_cases hv : i ∈ vs
    · obtain ⟨v, q1, q2⟩ := R1.cl i d (inn i _ hv e)
      exact ⟨v, q1, RD.mono l3 _ _ q2⟩
    · rw [bkS_out ρ1 ρ hv] at e
      obtain ⟨v, q1, q2⟩ := R.cl i d (by rw [unS_out ρ hv]; exact e)
      exact ⟨v, by rw [wipe_out hv] at q1; exact q1, RD.mono l2 _ _ q2⟩
  · by_cases hv : i ∈ vs
    · obtain ⟨v, q1, q2⟩ := R1.bo i d (inn i _ hv e)
      exact ⟨v, q1, q2.mono l3⟩
    · rw [bkS_out ρ1 ρ hv] at e
      obtain ⟨v, q1, q2⟩ := R.bo i d (by rw [unS_out ρ hv]; exact e)
      exact ⟨v, by rw [wipe_out hv] at q1; exact q1, q2.mono l2⟩
  · by_cases hv : i ∈ vs
    · have := nown i hv
      rw [e] at this; cases this
    · rw [bkS_out ρ1 ρ hv] at e
      obtain ⟨v, q1, q2, q3⟩ := R.ow i d (by rw [unS_out ρ hv]; exact e)
      exact ⟨v, by rw [wipe_out hv] at q1; exact q1, q2.mono l2 (fun _ h => h), q3⟩
  · by_cases hv : i ∈ vs
    · have := nown i hv
      rw [e] at this; cases this
    · rw [bkS_out ρ1 ρ hv] at e
      obtain ⟨v, q0, q1, q2, q3⟩ := R.le i d (by rw [unS_out ρ hv]; exact e)
      exact ⟨v, q0, by rw [wipe_out hv] at q1; exact q1, q2.mono l2 (fun _ h => h), q3⟩
  · have v1 : i ∉ vs := fun z => by rw [nown i z] at h1; cases h1
    have v2 : j ∉ vs := fun z => by rw [nown j z] at h3; cases h3
    rw [bkS_out ρ1 ρ v1] at h1
    rw [bkS_out ρ1 ρ v2] at h3
    exact R.inj i j b (by rw [unS_out ρ v1]; exact h1) (by rw [wipe_out v1]; exact h2) (by rw [unS_out ρ v2]; exact h3) (by rw [wipe_out v2]; exact h4)
end
def Fc.nox (F : Fc) : Fc := { F with W := fun _ _ _ _ => False }
section
variable {K : PySem.W.Frag} {F : Fc} {T : Fo} {H : Hp} {σ : St} {ρ : Ev}
theorem Rel.nox (R : Rel K F T H σ ρ) : Rel K F.nox T H σ ρ := ⟨R.len, R.cl, R.bo, R.ow, R.le, R.inj, R.keep, R.dom, R.tdom, R.tabs⟩
theorem Rel.unnox (R : Rel K F.nox T H σ ρ) : Rel K F T H σ ρ := ⟨R.len, R.cl, R.bo, R.ow, R.le, R.inj, R.keep, R.dom, R.tdom, R.tabs⟩
end
theorem wipe_eq {vs ws : List Nat} {σ σ' : St} (h : Wr ws (L2.wipe σ vs) σ') (hw : ∀ w ∈ ws, w ∈ vs) : L2.wipe σ' vs = L2.wipe σ vs := by
  refine List.ext_getElem? fun i => ?_
  have hl : σ'.length = σ.length := by rw [h.1, wipe_length]
  by_cases hv : i ∈ vs
  · by_cases hi : i < σ.length
    · rw [wipe_in σ hi hv, wipe_in σ' (by rw [hl]; exact hi) hv]
    · rw [List.getElem?_eq_none (by rw [wipe_length]; omega), List.getElem?_eq_none (by rw [wipe_length]; omega)]
  · rw [wipe_out hv, h.2 i fun z => hv (hw i z)]
section
variable {K : PySem.W.Frag} {F : Fc} {t : Tg} {ws : List Nat} {tt : M Bool} {e : M Op} {it : M (List D)} {vs : List Nat}
theorem liftLc {σ : St} {H : Hp} {Q : VK} (hw : ∀ w ∈ ws, w ∈ vs) (h : liftE K F (mLc it t tt e vs) σ H Q) :
    tLc (liftI K F it) (liftG K F.nox t ws) (liftT K F.nox tt) (liftK K F.nox (mK e)) vs σ H Q := by
  obtain ⟨T, ρ, R, h⟩ := h
  refine ⟨T, ρ, R, ?_⟩
  unfold mLc at h
  cases e1 : it ρ with
  | no => rw [e1] at h; exact h.elim
  | er x ρ' => rw [e1] at h; exact h
  | ok ds ρ1 =>
    rw [e1] at h
    rw [Rs.bind_ok] at h
    intro J H1 R1 x1 ok D hD
    by_cases c : (vs.all fun v => wipable ρ1[v]?) = true
    · rw [if_pos c] at h
      have wp : ∀ v ∈ vs, wipable ρ1[v]? = true := List.all_eq_true.mp c
      cases e2 : lcI t tt e vs ds [] ρ1 with
      | no => rw [e2] at h; exact h.elim
      | er x ρ' => rw [e2] at h; exact h.elim
      | ok accF ρF =>
        rw [e2] at h
        dsimp only at h
        -- the new list is forbidden
        have hD0 : F.H0 D = none := R1.h0none hD
        let TD : Fo := fun b => T b ∨ b = D
        have gr : ∀ b o, H1 b = some o → upd H1 D (.lst []) b = some o := upd_grow hD
        have R1d : Rel K F TD (upd H1 D (.lst [])) σ ρ1 := R1.more (fun b z => z.imp id fun z => by subst z; exact ⟨hD, by rw [upd_same]; exact fun z => nomatch z⟩) gr
        have lD : Le (Fb F T σ ρ1) H1 (Fb F TD (L2.wipe σ vs) (unS ρ1 vs)) (upd H1 D (.lst [])) := ⟨fun b o q _ _ => gr b o q, fun b z => by
          rcases z with z | z | z
          · exact .inl (.inl z)
          · exact z.imp (fun z => .inr (.inl z)) fun z => by rw [z]; exact hD
          · exact .inl (.inr (.inr (os_wipe z))), grow_dom gr⟩
        have xw : Ext σ ρ1 H1 (L2.wipe σ vs) (unS ρ1 vs) (upd H1 D (.lst [])) := ⟨fun b o q _ _ => gr b o q, fun b z => .inl (os_wipe z), grow_dom gr⟩
        -- the state ahead of turn i
        let Wc : Nat → Hp → Prop := fun i H' => ∃ ρ' acc accD, Rel K F TD H' (L2.wipe σ vs) (unS ρ' vs) ∧ H' D = some (.lst acc) ∧ RDs K (Fb F TD (L2.wipe σ vs) (unS ρ' vs)) H' acc accD ∧
          Ext σ ρ1 H1 (L2.wipe σ vs) (unS ρ' vs) H' ∧ Le (Fb F T σ ρ1) H1 (Fb F TD (L2.wipe σ vs) (unS ρ' vs)) H' ∧ lcI t tt e vs (ds.drop i) accD ρ' = .ok accF ρF
        refine ⟨fun i m H' => m = ds.length - i ∧ i ≤ ds.length ∧ Wc i H', ⟨ds.length, rfl, Nat.zero_le _, ρ1, [], [], R1d.wipe, upd_same, .nil, xw, lD, e2⟩, ?_⟩
        rintro i m H2 ⟨rfl, hi, ρ2, acc, accD, R2, hacc, racc, x2, l2, g2⟩
        obtain ⟨go, stop⟩ := ok i _ H2 l2 (fun b z => R2.fbd z) R2.keep
        by_cases hlt : i < ds.length
        · refine .inr ?_
          have ed : ds.drop i = ds[i] :: ds.drop (i + 1) := List.drop_eq_getElem_cons hlt
          obtain ⟨hgo, hy⟩ := go ds[i] (List.getElem?_eq_getElem hlt)
          rw [ed] at g2
          refine ⟨hgo, Wc (i + 1), fun H' n => ⟨ds.length - (i + 1), by omega, rfl, hlt, n⟩, fun x H3 y => ?_⟩
          obtain ⟨gr3, rx⟩ := hy x H3 y
          have R3 := R2.grow gr3
          unfold lcI at g2
          cases q1 : t ds[i] (unS ρ2 vs) with
          | none => rw [q1] at g2; cases g2
          | some ρ3 =>
            rw [q1] at g2
            dsimp only at g2
            refine ⟨TD, unS ρ2 vs, ds[i], R3.nox, rx, ρ3, q1, fun σ4 H4 R4 x4 w4 => ⟨wipe_eq w4 hw, TD, ρ3, R4, ?_⟩⟩
            have we := wipe_eq w4 hw
            have x24 : Ext (L2.wipe σ vs) (unS ρ2 vs) H2 σ4 ρ3 H4 := (Ext.grow gr3).trans x4
            -- back to the block's own slots
            have back : ∀ {ρ5 : Ev} {H5 : Hp}, Rel K F TD H5 σ4 ρ5 → Ext σ4 ρ3 H4 σ4 ρ5 H5 → Rel K F TD H5 (L2.wipe σ vs) (unS ρ5 vs) ∧ Ext (L2.wipe σ vs) (unS ρ2 vs) H2 (L2.wipe σ vs) (unS ρ5 vs) H5 := fun {ρ5 H5} R5 x5 => by
              have r := R5.wipe (vs := vs)
              rw [we] at r
              refine ⟨r, (x24.trans x5).kept, fun b z => ?_, (x24.trans x5).dom⟩
              have z : OS (L2.wipe σ4 vs) (unS ρ5 vs) b := by rw [we]; exact z
              exact (x24.trans x5).os b (os_wipe z)
            have dst : ∀ {ρ5 : Ev} {H5 : Hp}, Ext σ4 ρ3 H4 σ4 ρ5 H5 → H5 D = some (.lst acc) := fun {ρ5 H5} x5 =>
              (x24.trans x5).kept D _ hacc rfl fun z => (R2.os z).2.1 (.inr rfl)
            have go1 : ∀ {ρ5 : Ev} {H5 : Hp}, Rel K F TD H5 σ4 ρ5 → Ext σ4 ρ3 H4 σ4 ρ5 H5 → lcI t tt e vs (ds.drop (i + 1)) accD ρ5 = .ok accF ρF → Wc (i + 1) H5 := fun {ρ5 H5} R5 x5 g5 => by
              obtain ⟨b1, b2⟩ := back R5 x5
              have l5 : Le (Fb F TD (L2.wipe σ vs) (unS ρ2 vs)) H2 (Fb F TD (L2.wipe σ vs) (unS ρ5 vs)) H5 := b2.fb fun _ z => .inl z
              exact ⟨ρ5, acc, accD, b1, dst x5, RDs.mono l5 _ _ racc, x2.trans b2, l2.trans l5, g5⟩
            cases q2 : tt ρ3 with
            | no => rw [q2] at g2; cases g2
            | er z ρ' => rw [q2] at g2; cases g2
            | ok k ρ5 =>
              rw [q2] at g2
              intro H5 R5 x5
              cases k with
              | false =>
                dsimp only at g2
                rw [if_neg Bool.false_ne_true]
                exact go1 R5.unnox x5 g2
              | true =>
                dsimp only at g2
                rw [if_pos rfl]
                refine ⟨TD, ρ5, R5, ?_⟩
                cases q3 : mK e ρ5 with
                | no => rw [q3] at g2; cases g2
                | er z ρ' => rw [q3] at g2; cases g2
                | ok d ρ6 =>
                  rw [q3] at g2
                  dsimp only at g2
                  by_cases cz : accD.length < sizeLine
                  · rw [if_pos cz] at g2
                    intro v H6 R6 x6 r6
                    have x46 := x5.trans x6
                    have h6 := dst x46
                    refine ⟨acc, h6, by rw [racc.length]; exact cz, ?_⟩
                    obtain ⟨b1, b2⟩ := back R6.unnox x46
                    have l6 : Le (Fb F TD (L2.wipe σ vs) (unS ρ2 vs)) H2 (Fb F TD (L2.wipe σ vs) (unS ρ6 vs)) H6 := b2.fb fun _ z => .inl z
                    -- the item comes behind
                    have fD : Fb F TD (L2.wipe σ vs) (unS ρ6 vs) D := .inr (.inl (.inr rfl))
                    have ne : ∀ b, b ≠ D → upd H6 D (.lst (acc ++ [v])) b = H6 b := fun b z => upd_ne z
                    have dm7 : ∀ b, H6 b ≠ none → upd H6 D (.lst (acc ++ [v])) b ≠ none := fun b z => by
                      by_cases q : b = D
                      · rw [q, upd_same]; exact fun z => nomatch z
                      · rw [ne b q]; exact z
                    have l7 : Le (Fb F TD (L2.wipe σ vs) (unS ρ6 vs)) H6 (Fb F TD (L2.wipe σ vs) (unS ρ6 vs)) (upd H6 D (.lst (acc ++ [v]))) := ⟨fun b o q _ n => by rw [ne b fun z => n (by rw [z]; exact fD)]; exact q, fun b z => .inl z, dm7⟩
                    have nos : ∀ b, OS (L2.wipe σ vs) (unS ρ6 vs) b → b ≠ D := fun b z q => (b1.os z).2.1 (by rw [q]; exact .inr rfl)
                    have R7 : Rel K F TD (upd H6 D (.lst (acc ++ [v]))) (L2.wipe σ vs) (unS ρ6 vs) := b1.to l7 (fun b z o q => by rw [ne b (nos b z)]; exact q) (fun b z => (b1.os z).2.1) (fun b z => dm7 b (b1.tdom b z)) (fun b o q _ n q2 => by
                      rw [ne b fun z => by rw [z, hD0] at q; cases q]; exact q2) dm7 fun z => tabs_lst z h6
                    have vd : RD K (Fb F TD (L2.wipe σ vs) (unS ρ6 vs)) H6 v d := RD.mono (Le.less fun b z => by
                      rcases z with z | z | z
                      · exact .inl z
                      · exact .inr (.inl z)
                      · have z : OS (L2.wipe σ4 vs) (unS ρ6 vs) b := by rw [we]; exact z
                        exact .inr (.inr (os_wipe z))) _ _ r6
                    have x7 : Ext σ ρ1 H1 (L2.wipe σ vs) (unS ρ6 vs) (upd H6 D (.lst (acc ++ [v]))) := by
                      have x8 := x2.trans b2
                      refine ⟨fun b o q t n => ?_, x8.os, fun b z => dm7 b (x8.dom b z)⟩
                      rw [ne b fun z => by rw [z, hD] at q; cases q]
                      exact x8.kept b o q t n
                    exact ⟨ρ6, acc ++ [v], accD ++ [d], R7, upd_same, RDs.mono l7 _ _ ((RDs.mono l6 _ _ racc).append (.cons vd .nil)), x7, (l2.trans l6).trans l7, g2⟩
                  · rw [if_neg cz] at g2; cases g2
        · have en : ds.length = i := by omega
          refine .inl ⟨stop en, ?_⟩
          rw [List.drop_eq_nil_of_le (Nat.le_of_eq en)] at g2
          unfold lcI at g2
          cases g2
          have hl : ρF.length = ρ1.length := by
            have := R2.len
            rw [unS_len, wipe_length] at this
            rw [this, R1.len]
          have RF : Rel K F TD H2 σ (bkS ρ1 ρF vs) := Rel.unwipe R1 wp R2 l2
          have tt_ : ∀ b, TTf T (.ref D) (.fr (.list accF)) b → TD b := fun b z => z.imp id fun ⟨_, _, z⟩ => by cases z; rfl
          have fl : ∀ b, Fb F (TTf T (.ref D) (.fr (.list accF))) σ (bkS ρ1 ρF vs) b → Fb F TD (L2.wipe σ vs) (unS ρF vs) b := fun b z => by
            rcases z with z | z | z
            · exact .inl z
            · exact .inr (.inl (tt_ b z))
            · exact .inr (.inr (os_unwipe wp hl z))
          refine h _ H2 ⟨RF.less tt_, x1.trans ⟨x2.kept, fun b z => x2.os b (os_unwipe wp hl z), x2.dom⟩, ⟨D, rfl, .inr ⟨_, rfl, rfl⟩, ⟨acc, hacc, RDs.mono (Le.less fl) _ _ racc⟩, fun z => R1.tdom D (.inl z) hD, hD0⟩, fun d a e1 e2 => ?_⟩
          cases e2
          cases q : H D with
          | none => rfl
          | some o => exact absurd hD (x1.dom D (by rw [q]; exact fun z => nomatch z))
    · rw [if_neg c] at h; exact h.elim
end
section
variable {X : Cx} {F : Fc} {elt tg iter : Expr} {ifs : List Expr} {scope : Scope} {own : List (Str × Nat)} {pos spos py : Pos} {t : Tg} {ws : List Nat} {tt : M Bool} {e : M Op} {it : M (List D)}
/-- the tests of a comprehension -/
theorem qts_nil : PTs X [] (liftT X.K F tYesM) := pts_nil.imp fun σ H Q ⟨T, ρ, R, h⟩ => h H R (Ext.refl ..)
theorem qts_one {c : Expr} {m : M Bool} (h : QT X F c m) : PTs X [c] (liftT X.K F m) := pts_one h
theorem qe_lc (hc : X.calm = true) (hN : X.N.Nodup) (hi : QI X F tg iter it) (ok : BlkOk X.N X.env.scope scope own) (hw : ∀ w ∈ ws, w ∈ own.map (·.2))
    (hg : ∀ s H C cl fp, QG (X.blk s H scope (compEnvC scope cl C X.env) fp) F.nox tg t ws) (ht : ∀ s H C cl fp, PTs (X.blk s H scope (compEnvC scope cl C X.env) fp) ifs (liftT X.K F.nox tt))
    (he : ∀ s H C cl fp, QE (X.blk s H scope (compEnvC scope cl C X.env) fp) F.nox elt e) (hs : ∀ x, foldedSetIterable iter X.env x = pure x := by intro _; rfl) :
    QE X F (.ListComp elt [⟨tg, iter, ifs, 0⟩] scope pos) (mLc it t tt e (own.map (·.2))) :=
  (pe_lc (g := liftG X.K F.nox t ws) (te := liftK X.K F.nox (mK e)) hc hN hi ok hg ht (fun s H C cl fp => liftK_ (he s H C cl fp)) hs).imp fun _ _ _ h => liftLc hw h
theorem qs_setLc {i : Nat} {y : Str} (hc : X.calm = true) (hN : X.N.Nodup) (hy : X.N[i]? = some y) (hyl : X.env.scope.names.lookup y = some .local) (hsw : swapsWith (.ListComp elt [⟨tg, iter, ifs, 0⟩] scope pos) (some (.Name y py)) spos.line X.env = pure true)
    (hi : QI X F tg iter it) (ok : BlkOk X.N X.env.scope scope own) (hw : ∀ w ∈ ws, w ∈ own.map (·.2))
    (hg : ∀ s H C cl fp, QG (X.blk s H scope (compEnvC scope cl C X.env) fp) F.nox tg t ws) (ht : ∀ s H C cl fp, PTs (X.blk s H scope (compEnvC scope cl C X.env) fp) ifs (liftT X.K F.nox tt))
    (he : ∀ s H C cl fp, QE (X.blk s H scope (compEnvC scope cl C X.env) fp) F.nox elt e) (hs : ∀ x, foldedSetIterable iter X.env x = pure x := by intro _; rfl) :
    QS X F (.Assign [.Name y py] (.ListComp elt [⟨tg, iter, ifs, 0⟩] scope pos) spos) (sSet i (mLc it t tt e (own.map (·.2)))) := by
  refine (ps_setLc (g := liftG X.K F.nox t ws) (te := liftK X.K F.nox (mK e)) hc hN hy hyl hsw hi ok hg ht (fun s H C cl fp => liftK_ (he s H C cl fp)) hs).imp fun D σ H h => ?_
  have q := liftSet h
  obtain ⟨T, ρ, R, q⟩ := q
  exact liftLc hw ⟨T, ρ, R, q⟩
end
end Vx
set_option maxHeartbeats 2000000
namespace Vx
open PySem PySem.Spec L2
/-- an argument that is read -/
def AR (K : PySem.W.Frag) (A L : Fo) (H : Hp) (v : V) (d : D) : Prop := RD K A H v d ∨ ∃ a, v = .ref a ∧ ((∃ ds xs, d = .list ds ∧ ((Rd H a (.lst xs) ∧ ¬ L a) ∨ KLst K a xs) ∧ RDs K A H xs ds) ∨ ∃ ks kvs, d = .dict ks ∧ H a = some (.dK kvs) ∧ ¬ L a ∧ RKs K A H kvs ks)
inductive ArgsR (K : PySem.W.Frag) (A L : Fo) (H : Hp) : List Md → List V → List D → List Addr → Prop
  | nil : ArgsR K A L H [] [] [] []
  | pl {v : V} {d : D} {ms : List Md} {vs : List V} {ds : List D} {ls : List Addr} : AR K A L H v d → ArgsR K A L H ms vs ds ls → ArgsR K A L H (.pl :: ms) (v :: vs) (d :: ds) ls
  | kp {v : V} {d : D} {ms : List Md} {vs : List V} {ds : List D} {ls : List Addr} : RD K A H v d → ArgsR K A L H ms vs ds ls → ArgsR K A L H (.kp :: ms) (v :: vs) (d :: ds) ls
  | mu {a : Addr} {d : D} {ms : List Md} {vs : List V} {ds : List D} {ls : List Addr} : OB K A H a d → ArgsR K A L H ms vs ds ls → ArgsR K A L H (.mu :: ms) (.ref a :: vs) (d :: ds) (a :: ls)
structure Leave (tb : List (Addr × Str)) (ls : List Addr) (H H' : Hp) : Prop where
  kept : ∀ b o, H b = some o → nTb o = true → b ∉ ls → H' b = some o
  dom : ∀ b, H b ≠ none → H' b ≠ none
  tabs : LamX.Tabs tb H'
inductive Outs (K : PySem.W.Frag) (A : Fo) (H : Hp) : List Addr → List D → Prop
  | nil : Outs K A H [] []
  | cons {a : Addr} {d : D} {ls : List Addr} {ds : List D} : OB K A H a d → Outs K A H ls ds → Outs K A H (a :: ls) (d :: ds)
def ResR (K : PySem.W.Frag) (A : Fo) (H H' : Hp) (v : V) (d : D) : Bool → Prop
  | true => ∃ a, v = .ref a ∧ H a = none ∧ OB K (fun b => A b ∨ b = a) H' a d
  | false => RD K A H' v d
def GF (K : PySem.W.Frag) (cn : Str → Addr) (tb : List (Addr × Str)) (A : Fo) (H : Hp) (ls : List Addr) (Q : VK) (E : XK) : FR → Prop
  | .ok fr d outs => ∀ v H', Leave tb ls H H' → Outs K (fun b => A b ∨ (fr = true ∧ v = .ref b)) H' ls outs → ResR K A H H' v d fr → Q v H'
  | .er x outs => ∀ c dd H', Leave tb ls H H' → Outs K A H' ls outs → ErOk cn x c dd H' → E c dd H'
  | .no => False
def spV (K : PySem.W.Frag) (cn : Str → Addr) (tb : List (Addr × Str)) (md : List Md) (g : List D → FR) : Sp := fun vs H Q E => LamX.Tabs tb H ∧ ∃ (A : Fo) (ds : List D) (ls : List Addr), (∀ b, A b → H b ≠ none) ∧ (∀ a ∈ ls, A a) ∧ ls.Nodup ∧ ArgsR K A (· ∈ ls) H md vs ds ls ∧ GF K cn tb A H ls Q E (g ds)
def ltOf : List Md → List V → Nat → Option Addr
  | .mu :: _, .ref a :: _, 0 => some a
  | _ :: ms, _ :: vs, i + 1 => ltOf ms vs i
  | _, _, _ => none
section
variable {K : PySem.W.Frag} {A L : Fo} {H H' : Hp} {md : List Md} {vs : List V} {ds : List D} {ls : List Addr}
theorem ArgsR.len (h : ArgsR K A L H md vs ds ls) : vs.length = md.length ∧ ds.length = md.length ∧ (entA md ds).length = md.length := by
  induction h with
  | nil => exact ⟨rfl, rfl, rfl⟩
  | pl _ _ ih => exact ⟨congrArg (· + 1) ih.1, congrArg (· + 1) ih.2.1, congrArg (· + 1) ih.2.2⟩
  | kp _ _ ih => exact ⟨congrArg (· + 1) ih.1, congrArg (· + 1) ih.2.1, congrArg (· + 1) ih.2.2⟩
  | mu _ _ ih => exact ⟨congrArg (· + 1) ih.1, congrArg (· + 1) ih.2.1, congrArg (· + 1) ih.2.2⟩
/-- a lent object that is read -/
def BOr (K : PySem.W.Frag) (A L : Fo) (H : Hp) (a : Addr) : D → Prop
  | .list ds => ∃ xs, ((Rd H a (.lst xs) ∧ ¬ L a) ∨ KLst K a xs) ∧ RDs K A H xs ds
  | .dict ks => ∃ kvs, H a = some (.dK kvs) ∧ ¬ L a ∧ RKs K A H kvs ks
  | _ => False
theorem AR.slot {v : V} {d : D} (h : AR K A L H v d) (hL : ∀ b, L b → A b) : (isObjD d = true → ∃ a, v = .ref a ∧ BOr K A L H a d) ∧ (isObjD d = false → RD K A H v d) := by
  refine ⟨fun c => ?_, fun c => ?_⟩
  · rcases h with h | ⟨a, e, ⟨ds, xs, e2, q, r⟩ | ⟨ks, kvs, e2, q, n, r⟩⟩
    · cases h with
      | lstH r n q => exact ⟨_, rfl, _, .inl ⟨r, fun z => n (hL _ z)⟩, q⟩
      | lstK r q => exact ⟨_, rfl, _, .inr r, q⟩
      | dct r n q => exact ⟨_, rfl, _, r, fun z => n (hL _ z), q⟩
      | opq => cases c
      | _ => cases c
    · subst e2; exact ⟨a, e, xs, q, r⟩
    · subst e2; exact ⟨a, e, kvs, q, n, r⟩
  · rcases h with h | ⟨a, e, ⟨ds, xs, e2, q, r⟩ | ⟨ks, kvs, e2, q, n, r⟩⟩
    · exact h
    · subst e2; cases c
    · subst e2
      have c : plainK ks = false := c
      rw [r.plain] at c; cases c
/-- what stands in the slots at the entry -/
theorem ArgsR.slots (h : ArgsR K A L H md vs ds ls) (hL : ∀ b, L b → A b) : ∀ (i : Nat),
    (∀ d, (entA md ds)[i]? = some (.cl d) → ∃ v, vs[i]? = some v ∧ RD K A H v d) ∧ (∀ d, (entA md ds)[i]? = some (.bo d) → ∃ a, vs[i]? = some (V.ref a) ∧ BOr K A L H a d) ∧
    (∀ d, (entA md ds)[i]? ≠ some (.ow d)) ∧ (∀ d, (entA md ds)[i]? = some (.le d) → ∃ a, vs[i]? = some (V.ref a) ∧ ltOf md vs i = some a ∧ OB K A H a d ∧ a ∈ ls) := by
  induction h with
  | nil => exact fun i => ⟨fun _ e => (nomatch e), fun _ e => (nomatch e), fun _ e => (nomatch e), fun _ e => (nomatch e)⟩
  | @pl v d ms vs ds ls r _ ih =>
    intro i
    cases i with
    | succ i => exact ih i
    | zero =>
      obtain ⟨c1, c2⟩ := r.slot hL
      show (∀ d', some (if isObjD d then Sl.bo d else .cl d) = some (.cl d') → _) ∧ (∀ d', some (if isObjD d then Sl.bo d else .cl d) = some (.bo d') → _) ∧ (∀ d', some (if isObjD d then Sl.bo d else .cl d) ≠ some (.ow d')) ∧ (∀ d', some (if isObjD d then Sl.bo d else .cl d) = some (.le d') → _)
      cases q : isObjD d with
      | true =>
        simp only [if_true]
        obtain ⟨a, e, b⟩ := c1 q
        exact ⟨fun _ e => (nomatch e), fun d' e' => by cases e'; exact ⟨a, by rw [e]; rfl, b⟩, fun _ e => (nomatch e), fun _ e => (nomatch e)⟩
      | false =>
        simp only [Bool.false_eq_true, if_false]
        exact ⟨fun d' e' => by cases e'; exact ⟨v, rfl, c2 q⟩, fun _ e => (nomatch e), fun _ e => (nomatch e), fun _ e => (nomatch e)⟩
  | @kp v d ms vs ds ls r _ ih =>
    intro i
    cases i with
    | succ i => exact ih i
    | zero => exact ⟨fun d' e' => by cases e'; exact ⟨v, rfl, r⟩, fun _ e => (nomatch e), fun _ e => (nomatch e), fun _ e => (nomatch e)⟩
  | @mu a d ms vs ds ls r _ ih =>
    intro i
    cases i with
    | succ i =>
      obtain ⟨h1, h2, h3, h4⟩ := ih i
      refine ⟨h1, h2, h3, fun d' e' => ?_⟩
      obtain ⟨b, q1, q2, q3, q4⟩ := h4 d' e'
      exact ⟨b, q1, q2, q3, List.mem_cons_of_mem _ q4⟩
    | zero => exact ⟨fun _ e => (nomatch e), fun _ e => (nomatch e), fun _ e => (nomatch e), fun d' e' => by cases e'; exact ⟨a, rfl, rfl, r, List.mem_cons_self⟩⟩
theorem ArgsR.lt (h : ArgsR K A L H md vs ds ls) : (∀ i a, ltOf md vs i = some a → a ∈ ls) ∧ ∀ a ∈ ls, ∃ i, ltOf md vs i = some a ∧ OwnS (entA md ds)[i]? = true ∧ vs[i]? = some (V.ref a) := by
  induction h with
  | nil => exact ⟨fun i a e => (by cases i <;> cases e), fun a h => (nomatch h)⟩
  | pl _ _ ih =>
    refine ⟨fun i a e => ?_, fun a h => ?_⟩
    · cases i with
      | zero => cases e
      | succ i => exact ih.1 i a e
    · obtain ⟨i, q⟩ := ih.2 a h
      exact ⟨i + 1, q⟩
  | kp _ _ ih =>
    refine ⟨fun i a e => ?_, fun a h => ?_⟩
    · cases i with
      | zero => cases e
      | succ i => exact ih.1 i a e
    · obtain ⟨i, q⟩ := ih.2 a h
      exact ⟨i + 1, q⟩
  | mu _ _ ih =>
    refine ⟨fun i a e => ?_, fun a h => ?_⟩
    · cases i with
      | zero => cases e; exact List.mem_cons_self
      | succ i => exact List.mem_cons_of_mem _ (ih.1 i a e)
    · rcases List.mem_cons.mp h with z | z
      · subst z; exact ⟨0, rfl, rfl, rfl⟩
      · obtain ⟨i, q⟩ := ih.2 a z
        exact ⟨i + 1, q⟩
theorem ArgsR.inj (h : ArgsR K A L H md vs ds ls) (nd : ls.Nodup) : ∀ (i j : Nat) b, OwnS (entA md ds)[i]? = true → vs[i]? = some (V.ref b) → OwnS (entA md ds)[j]? = true → vs[j]? = some (V.ref b) → i = j := by
  have mem : ∀ {md : List Md} {vs : List V} {ds : List D} {ls : List Addr}, ArgsR K A L H md vs ds ls → ∀ (i : Nat) b, OwnS (entA md ds)[i]? = true → vs[i]? = some (V.ref b) → b ∈ ls := by
    intro md vs ds ls h
    induction h with
    | nil => intro i b e; cases e
    | @pl v d ms vs ds ls r _ ih =>
      intro i b e1 e2
      cases i with
      | succ i => exact ih i b e1 e2
      | zero =>
        have e1 : OwnS (some (if isObjD d then Sl.bo d else .cl d)) = true := e1
        cases q : isObjD d <;> (rw [q] at e1; cases e1)
    | kp r _ ih =>
      intro i b e1 e2
      cases i with
      | succ i => exact ih i b e1 e2
      | zero => cases e1
    | mu r _ ih =>
      intro i b e1 e2
      cases i with
      | succ i => exact List.mem_cons_of_mem _ (ih i b e1 e2)
      | zero => cases e2; exact List.mem_cons_self
  induction h with
  | nil => intro i j b e; cases e
  | @pl v d ms vs ds ls r _ ih =>
    have no : OwnS (entA (.pl :: ms) (d :: ds))[0]? = false := by
      show OwnS (some (if isObjD d then Sl.bo d else .cl d)) = false
      cases isObjD d <;> rfl
    intro i j b e1 e2 e3 e4
    cases i with
    | zero => rw [no] at e1; cases e1
    | succ i =>
      cases j with
      | zero => rw [no] at e3; cases e3
      | succ j => exact congrArg (· + 1) (ih nd i j b e1 e2 e3 e4)
  | kp r _ ih =>
    intro i j b e1 e2 e3 e4
    cases i with
    | zero => cases e1
    | succ i =>
      cases j with
      | zero => cases e3
      | succ j => exact congrArg (· + 1) (ih nd i j b e1 e2 e3 e4)
  | mu r t ih =>
    obtain ⟨n1, n2⟩ := List.nodup_cons.mp nd
    intro i j b e1 e2 e3 e4
    cases i with
    | zero =>
      cases j with
      | zero => rfl
      | succ j => cases e2; exact absurd (mem t j _ e3 e4) n1
    | succ i =>
      cases j with
      | zero => cases e4; exact absurd (mem t i _ e1 e2) n1
      | succ j => exact congrArg (· + 1) (ih n2 i j b e1 e2 e3 e4)
/-- a body's constants -/
def fcOf (cn : Str → Addr) (tb : List (Addr × Str)) (A : Fo) (H : Hp) (md : List Md) (vs : List V) (ls : List Addr) (E : XK) : Fc := { B := fun b => A b ∧ b ∉ ls, lt := ltOf md vs, H0 := H, W := fun c dd _ H => E c dd H, cn := cn, tb := tb }
theorem getE_rep {ρ : Ev} {n i : Nat} {s : Sl} (h : (ρ ++ List.replicate n .un)[i]? = some s) (hs : s ≠ .un) : ρ[i]? = some s := by
  by_cases c : i < ρ.length
  · rwa [List.getElem?_append_left c] at h
  · rw [List.getElem?_append_right (by omega)] at h
    have := List.mem_of_getElem? h
    exact absurd (List.eq_of_mem_replicate this) hs
theorem start_get {N : List Str} {vs : List V} {i : Nat} {v : V} (h : vs[i]? = some v) : (start N vs)[i]? = some (some v) := by
  unfold L2.start
  rw [List.getElem?_append_left (by rw [List.length_map]; exact (List.getElem?_eq_some_iff.mp h).1), List.getElem?_map, h]
  rfl
theorem start_get' {N : List Str} {vs : List V} {i : Nat} {v : V} (h : (start N vs)[i]? = some (some v)) : vs[i]? = some v := by
  unfold L2.start at h
  by_cases c : i < vs.length
  · rw [List.getElem?_append_left (by rw [List.length_map]; exact c), List.getElem?_map] at h
    cases q : vs[i]? with
    | none => rw [q] at h; cases h
    | some u => rw [q] at h; cases h; rfl
  · rw [List.getElem?_append_right (by rw [List.length_map]; omega)] at h
    have := List.eq_of_mem_replicate (List.mem_of_getElem? h)
    cases this
theorem entry {cn : Str → Addr} {tb : List (Addr × Str)} {E : XK} {N : List Str} (hA : ∀ b, A b → H b ≠ none) (hl : ∀ a ∈ ls, A a) (nd : ls.Nodup) (h : ArgsR K A (· ∈ ls) H md vs ds ls) (hN : md.length ≤ N.length) (ht : LamX.Tabs tb H) :
    Rel K (fcOf cn tb A H md vs ls E) noT H (start N vs) (entA md ds ++ List.replicate (N.length - md.length) .un) := by
  have S := h.slots hl
  obtain ⟨lt1, lt2⟩ := h.lt
  have os1 : ∀ b, OS (start N vs) (entA md ds ++ List.replicate (N.length - md.length) .un) b → b ∈ ls := by
    rintro b ⟨i, h1, h2⟩
    obtain ⟨d, e | e⟩ := ownS_cases h1
    · exact absurd (getE_rep e (fun z => (nomatch z))) ((S i).2.2.1 d)
    · obtain ⟨a, q1, q2, q3, q4⟩ := (S i).2.2.2 d (getE_rep e (fun z => (nomatch z)))
      have := start_get (N := N) q1
      rw [h2] at this; cases this
      exact q4
  have own : ∀ i, OwnS (entA md ds ++ List.replicate (N.length - md.length) .un)[i]? = true → OwnS (entA md ds)[i]? = true := fun i h1 => by
    obtain ⟨d, e | e⟩ := ownS_cases h1
    · rw [getE_rep e (fun z => (nomatch z))]; rfl
    · rw [getE_rep e (fun z => (nomatch z))]; rfl
  have fl : ∀ b, Fb (fcOf cn tb A H md vs ls E) noT (start N vs) (entA md ds ++ List.replicate (N.length - md.length) .un) b → A b := fun b z => by
    rcases z with z | z | z
    · exact z.1
    · exact z.elim
    · exact hl b (os1 b z)
  have l : Le A H (Fb (fcOf cn tb A H md vs ls E) noT (start N vs) (entA md ds ++ List.replicate (N.length - md.length) .un)) H := Le.less fl
  refine ⟨?_, fun i d e => ?_, fun i d e => ?_, fun i d e => ?_, fun i d e => ?_, fun i j b h1 h2 h3 h4 => ?_, fun _ _ h _ _ => h, fun _ h => h, fun b z => z.elim (fun z => hA b z.1) fun z => z.elim, ht⟩
  · obtain ⟨n1, n2, n3⟩ := h.len
    unfold L2.start
    rw [List.length_append, List.length_append, List.length_replicate, List.length_replicate, List.length_map, n3, n1]
  · obtain ⟨v, q1, q2⟩ := (S i).1 d (getE_rep e (fun z => (nomatch z)))
    exact ⟨v, start_get q1, RD.mono l _ _ q2⟩
  · obtain ⟨a, q1, q2⟩ := (S i).2.1 d (getE_rep e (fun z => (nomatch z)))
    refine ⟨a, start_get q1, ?_⟩
    have nl : ∀ b, b ∉ ls → ¬ (fcOf cn tb A H md vs ls E).L b := fun b n ⟨i, z⟩ => n (lt1 i b z)
    cases d with
    | list es =>
      obtain ⟨xs, q3, q4⟩ := q2
      exact ⟨xs, q3.imp (fun z => ⟨z.1, nl a z.2⟩) id, RDs.mono l _ _ q4⟩
    | dict ks =>
      obtain ⟨xs, q3, q4, q5⟩ := q2
      exact ⟨xs, q3, nl a q4, RKs.mono l _ _ q5⟩
    | _ => exact q2.elim
  · exact absurd (getE_rep e (fun z => (nomatch z))) ((S i).2.2.1 d)
  · obtain ⟨a, q1, q2, q3, q4⟩ := (S i).2.2.2 d (getE_rep e (fun z => (nomatch z)))
    exact ⟨a, q2, start_get q1, q3.mono l (fun _ h => h), fun z => z.2 q4, fun z => z⟩
  · exact h.inj nd i j b (own i h1) (start_get' h2) (own j h3) (start_get' h4)
theorem outs_ok {F : Fc} {T : Fo} {σ : St} {ρ : Ev} (R : Rel K F T H' σ ρ) : ∀ {md : List Md} {vs : List V} {ds : List D} {ls : List Addr} {outs : List D} (n : Nat), ArgsR K A L H md vs ds ls → (∀ i a, ltOf md vs i = some a → F.lt (n + i) = some a) → outsA ρ md n = some outs →
    (∀ b ∈ ls, OS σ ρ b) ∧ ∀ A', (Le (Fb F T σ ρ) H' A' H') → Outs K A' H' ls outs
  | _, _, _, _, _, _, .nil, _, e => by
    cases e
    exact ⟨fun b h => (nomatch h), fun _ _ => .nil⟩
  | _, _, _, _, _, n, .pl (ms := ms) (vs := vs) r t, hl, e => outs_ok R (n + 1) t (fun i a q => by
      have := hl (i + 1) a q
      rw [← this]; congr 1; omega) e
  | _, _, _, _, _, n, .kp r t, hl, e => outs_ok R (n + 1) t (fun i a q => by
      have := hl (i + 1) a q
      rw [← this]; congr 1; omega) e
  | _, _, _, _, outs, n, .mu (a := a) (ms := ms) r t, hl, e => by
    have e : (leS ρ[n]?).bind (fun d => (outsA ρ ms (n + 1)).bind fun r => some (d :: r)) = some outs := e
    cases q : leS ρ[n]? with
    | none => rw [q] at e; cases e
    | some d =>
      rw [q] at e
      have e : (outsA ρ ms (n + 1)).bind (fun r => some (d :: r)) = some outs := e
      cases q2 : outsA ρ ms (n + 1) with
      | none => rw [q2] at e; cases e
      | some r =>
        rw [q2] at e; cases e
        have s : ρ[n]? = some (.le d) := by
          cases z : ρ[n]? with
          | none => rw [z] at q; cases q
          | some s => rw [z] at q; cases s <;> cases q; rfl
        obtain ⟨b, p0, p1, p2, p3, p4⟩ := R.le n d s
        have := hl 0 a rfl
        rw [Nat.add_zero, p0] at this; cases this
        obtain ⟨u1, u2⟩ := outs_ok R (n + 1) t (fun i a q => by
          have := hl (i + 1) a q
          rw [← this]; congr 1; omega) q2
        refine ⟨fun c h => ?_, fun A' l => .cons (p2.mono l fun _ h => h) (u2 A' l)⟩
        rcases List.mem_cons.mp h with z | z
        · subst z; exact ⟨n, by rw [s]; rfl, p1⟩
        · exact u1 c z
theorem res_fb {F : Fc} {T : Fo} {H' : Hp} {σ' : St} {ρ' : Ev} {op : Op} {b : Bool} {d : D} {v : V} {c : Addr} (p : VOk K F (TTf T v op) H' σ' ρ' v op) (q : resO ρ' op = some (b, d)) (hb : b = true) (hv : v = .ref c) : Fb F (TTf T v op) σ' ρ' c := by
  subst hb hv
  cases op with
  | val d' => cases q
  | fr d' => exact .inr (.inl (.inr ⟨_, rfl, rfl⟩))
  | sl i =>
    have hv : σ'[i]? = some (some (V.ref c)) := p
    have q3 : (match ρ'[i]? with
      | some (.ow d) => some (true, d)
      | some (.cl d) => some (false, d)
      | _ => none) = some (true, d) := q
    cases q4 : ρ'[i]? with
    | none => rw [q4] at q3; cases q3
    | some s =>
      rw [q4] at q3
      cases s with
      | ow d' => exact .inr (.inr ⟨i, by rw [q4]; rfl, hv⟩)
      | _ => cases q3
theorem exit_gs {cn : Str → Addr} {tb : List (Addr × Str)} {E : XK} {Q : VK} {σ : St} {ρ : Ev} {N : List Str} {m : M Fl} (hA : ∀ b, A b → H b ≠ none) (hl : ∀ a ∈ ls, A a) (nd : ls.Nodup) (h : ArgsR K A (· ∈ ls) H md vs ds ls) (hN : md.length ≤ N.length) (htb : LamX.Tabs tb H)
    (g : GF K cn tb A H ls Q E (runD md (N.length - md.length) m ds)) : GS K (fcOf cn tb A H md vs ls E) H (start N vs) (entA md ds ++ List.replicate (N.length - md.length) .un) { nx := fun _ H' => Q .non H', rt := Q } (m (entA md ds ++ List.replicate (N.length - md.length) .un)) := by
  unfold runD at g
  rw [if_pos h.len.2.1] at g
  have lt1 := h.lt.1
  -- behind the body
  have leave : ∀ {T : Fo} {σ' : St} {ρ' : Ev} {H' : Hp}, Rel K (fcOf cn tb A H md vs ls E) T H' σ' ρ' → Leave tb ls H H' := fun R => ⟨fun b o q t n => R.keep b o q t fun ⟨i, z⟩ => n (lt1 i b z), fun b z => R.dom b z, R.tabs⟩
  have outs : ∀ {T : Fo} {σ' : St} {ρ' : Ev} {H' : Hp} {os : List D}, Rel K (fcOf cn tb A H md vs ls E) T H' σ' ρ' → outsA ρ' md 0 = some os → (∀ b, A b → Fb (fcOf cn tb A H md vs ls E) T σ' ρ' b) ∧ ∀ A' : Fo, (∀ b, A' b → Fb (fcOf cn tb A H md vs ls E) T σ' ρ' b) → Outs K A' H' ls os := fun {T σ' ρ' H' os} R e => by
    obtain ⟨u1, u2⟩ := outs_ok R 0 h (fun i a q => by rw [Nat.zero_add]; exact q) e
    have fl : ∀ b, A b → Fb (fcOf cn tb A H md vs ls E) T σ' ρ' b := fun b z => by
      by_cases c : b ∈ ls
      · exact .inr (.inr (u1 b c))
      · exact .inl ⟨z, c⟩
    exact ⟨fl, fun A' h => u2 A' (Le.less h)⟩
  cases q : m (entA md ds ++ List.replicate (N.length - md.length) .un) with
  | no => rw [q] at g; exact g.elim
  | er x ρ' =>
    rw [q] at g
    have g : GF K cn tb A H ls Q E (match outsA ρ' md 0 with
      | some outs => .er x outs
      | none => .no) := g
    cases q2 : outsA ρ' md 0 with
    | none => rw [q2] at g; exact g.elim
    | some os =>
      rw [q2] at g
      exact fun c dd σ' H' R' _ ek => g c dd H' (leave R') ((outs R' q2).2 A (outs R' q2).1) ek
  | ok f ρ' =>
    rw [q] at g
    cases f with
    | bk => exact g.elim
    | ct => exact g.elim
    | nx =>
      have g : GF K cn tb A H ls Q E (match outsA ρ' md 0 with
        | some outs => .ok false .none outs
        | none => .no) := g
      cases q2 : outsA ρ' md 0 with
      | none => rw [q2] at g; exact g.elim
      | some os =>
        rw [q2] at g
        exact fun σ' H' R' _ => g .non H' (leave R') ((outs R' q2).2 _ fun b z => z.elim ((outs R' q2).1 b) fun z => nomatch z.1) .non
    | rt op =>
      have g : GF K cn tb A H ls Q E (match resO ρ' op, outsA ρ' md 0 with
        | some (b, d), some outs => .ok b d outs
        | _, _ => .no) := g
      intro σ' v H' p
      cases q2 : outsA ρ' md 0 with
      | none =>
        rw [q2] at g
        cases q3 : resO ρ' op with
        | none => rw [q3] at g; exact g.elim
        | some w => rw [q3] at g; exact g.elim
      | some os =>
        rw [q2] at g
        cases q3 : resO ρ' op with
        | none => rw [q3] at g; exact g.elim
        | some w =>
          obtain ⟨b, d⟩ := w
          rw [q3] at g
          obtain ⟨fl, ou⟩ := outs p.rel q2
          refine g v H' (leave p.rel) (ou _ fun b z => z.elim (fl b) fun ⟨z1, z2⟩ => ?_) ?_
          · exact res_fb p.val q3 z1 z2
          cases op with
          | val d' => cases q3; exact RD.mono (Le.less fl) _ _ p.val
          | fr d' =>
            cases q3
            obtain ⟨a, e1, ta, ob, _, _⟩ := p.val
            exact ⟨a, e1, p.new _ a rfl e1, ob.mono (Le.less fun b z => z.elim (fl b) fun z => by rw [z]; exact .inr (.inl ta)) fun _ h => h⟩
          | sl i =>
            have hv : σ'[i]? = some (some v) := p.val
            have q3 : (match ρ'[i]? with
              | some (.ow d) => some (true, d)
              | some (.cl d) => some (false, d)
              | _ => none) = some (b, d) := q3
            cases q4 : ρ'[i]? with
            | none => rw [q4] at q3; cases q3
            | some s =>
              rw [q4] at q3
              cases s with
              | cl d' =>
                cases q3
                obtain ⟨u, p1, p2⟩ := p.rel.cl i d q4
                rw [hv] at p1; cases p1
                exact RD.mono (Le.less fl) _ _ p2
              | ow d' =>
                cases q3
                obtain ⟨a, p1, p2, p3, p4, p5⟩ := p.rel.ow i d q4
                rw [hv] at p1; cases p1
                exact ⟨a, rfl, p5, p2.mono (Le.less fun b z => z.elim (fl b) fun z => by rw [z]; exact .inr (.inr ⟨i, by rw [q4]; rfl, hv⟩)) fun _ h => h⟩
              | _ => cases q3
theorem exit_ok {cn : Str → Addr} {tb : List (Addr × Str)} {E : XK} {Q : VK} {σ : St} {ρ : Ev} {N : List Str} {m : M Fl} (hA : ∀ b, A b → H b ≠ none) (hl : ∀ a ∈ ls, A a) (nd : ls.Nodup) (h : ArgsR K A (· ∈ ls) H md vs ds ls) (hN : md.length ≤ N.length) (htb : LamX.Tabs tb H)
    (g : GF K cn tb A H ls Q E (runD md (N.length - md.length) m ds)) : liftS K (fcOf cn tb A H md vs ls E) m { nx := fun _ H' => Q .non H', rt := Q } (start N vs) H :=
  ⟨_, entry (cn := cn) (tb := tb) (E := E) hA hl nd h hN htb, exit_gs (σ := σ) (ρ := ρ) hA hl nd h hN htb g⟩
end
section
variable {P : Program} {w : World} {K : PySem.W.Frag} {mg : Str → Option Value} {base : Heap} {x qual : Str} {params : Arguments} {body : List Stmt} {scope : Scope} {dvs : List V} {kws : List (Str × V)} {f : Addr} {fd : FuncData} {N ps : List Str} {k : Nat}
theorem spV_len {cn : Str → Addr} {tb : List (Addr × Str)} {md : List Md} {g : List D → FR} (h : md.length = ps.length) : ∀ vs H Q E, spV K cn tb md g vs H Q E → vs.length = ps.length := fun vs H Q E ⟨_, A, ds, ls, _, _, _, r, _⟩ => r.len.1.trans h
/-- THE RULE for a def: its body goes as its mirror -/
theorem fn_ok {cn : Str → Addr} {tb : List (Addr × Str)} {md : List Md} {m : M Fl} (F : FunD K x qual params body scope dvs kws f fd) (S : FnScope N ps scope) (hm : md.length = ps.length) (hN : ps.length ≤ N.length)
    (hb : ∀ (cdv : Value) (A : Around) (outer : List Env) (s : Shared) (H : Hp) (E : XK) (F : Fc), Room k (A.deeper (PyProof.Rows.envOfC qual scope s.heap.objs.size f cdv)) → F.cn = cn → F.tb = tb → Takes (cxOf (L2.CX P w) P w K mg base N qual scope f cdv A outer s H E) F.W →
      QSs (cxOf (L2.CX P w) P w K mg base N qual scope f cdv A outer s H E) F body m) : FnOk P w K mg base (L2.CX P w) (k + 1) f fd ps (spV K cn tb md (runD md (N.length - md.length) m)) := by
  refine F.ok S (spV_len hm) fun cdv A outer s H vs Q E hr h => ?_
  obtain ⟨htb, A', ds, ls, hA, hl, nd, r, g⟩ := h
  exact ⟨_, hb cdv A outer s H E (fcOf cn tb A' H md vs ls E) hr rfl rfl (takes_of rfl rfl rfl rfl), exit_ok (σ := []) (ρ := []) hA hl nd r (by rw [hm]; exact hN) htb g⟩
end
end Vx
set_option maxHeartbeats 2000000
namespace Vx
open PySem PySem.Spec L2
/-- some own lists are shared -/
def Sh (ρ ρ' : Ev) : Prop := ∀ i : Nat, ρ'[i]? = ρ[i]? ∨ ∃ d, ρ[i]? = some (.ow d) ∧ ρ'[i]? = some (.cl d)
theorem Sh.rdS {ρ ρ' : Ev} (h : Sh ρ ρ') (i : Nat) : rdS ρ'[i]? = Vx.rdS ρ[i]? := by
  rcases h i with e | ⟨d, e1, e2⟩
  · rw [e]
  · rw [e1, e2]; rfl
theorem Sh.rd {ρ ρ' : Ev} (h : Sh ρ ρ') (x : Op) : rd ρ' x = Vx.rd ρ x := by
  cases x with
  | val d => rfl
  | fr d => rfl
  | sl i => exact h.rdS i
theorem Sh.own {ρ ρ' : Ev} (h : Sh ρ ρ') {i : Nat} (o : OwnS ρ'[i]? = true) : ρ'[i]? = ρ[i]? := by
  rcases h i with e | ⟨d, e1, e2⟩
  · exact e
  · rw [e2] at o; cases o
theorem Sh.trans {ρ ρ1 ρ2 : Ev} (a : Sh ρ ρ1) (b : Sh ρ1 ρ2) : Sh ρ ρ2 := fun i => by
  rcases b i with e | ⟨d, e1, e2⟩
  · rw [e]; exact a i
  · rcases a i with e3 | ⟨d', e3, e4⟩
    · exact .inr ⟨d, by rw [← e3]; exact e1, e2⟩
    · rw [e4] at e1; cases e1
theorem Sh.refl (ρ : Ev) : Sh ρ ρ := fun _ => .inl rfl
theorem Sh.one {ρ : Ev} {i : Nat} {d : D} (e : ρ[i]? = some (.ow d)) : Sh ρ (ρ.set i (.cl d)) := fun j => by
  by_cases h : j = i
  · subst h; exact .inr ⟨d, e, List.getElem?_set_self (List.getElem?_eq_some_iff.mp e).1⟩
  · exact .inl (List.getElem?_set_ne (Ne.symm h))
section
variable {K : PySem.W.Frag} {F : Fc} {T : Fo} {H : Hp} {σ : St}
/-- the prepared arguments -/
inductive PreA (K : PySem.W.Frag) (F : Fc) (T : Fo) (H : Hp) (σ : St) (ρ : Ev) : List Md → List V → List Op → List D → List Nat → Prop
  | nil : PreA K F T H σ ρ [] [] [] [] []
  | pl {ms vs xs ds is} {v : V} {x : Op} {d : D} : VOk K F T H σ ρ v x → rd ρ x = some d → PreA K F T H σ ρ ms vs xs ds is → PreA K F T H σ ρ (.pl :: ms) (v :: vs) (x :: xs) (d :: ds) is
  | kp {ms vs xs ds is} {v : V} {x : Op} {d : D} : RD K (Fb F T σ ρ) H v d → PreA K F T H σ ρ ms vs xs ds is → PreA K F T H σ ρ (.kp :: ms) (v :: vs) (x :: xs) (d :: ds) is
  | mu {ms vs xs ds is} {v : V} {i : Nat} {d : D} : σ[i]? = some (some v) → rdS ρ[i]? = some d → i ∉ is → PreA K F T H σ ρ ms vs xs ds is → PreA K F T H σ ρ (.mu :: ms) (v :: vs) (.sl i :: xs) (d :: ds) (i :: is)
theorem kp_sh {ρ ρ2 : Ev} {v : V} {x : Op} {d : D} (R : Rel K F T H σ ρ) (h : VOk K F T H σ ρ v x) (e : kp ρ x = some (d, ρ2)) : Rel K F T H σ ρ2 ∧ Ext σ ρ H σ ρ2 H ∧ Sh ρ ρ2 ∧ (x ≠ .fr d → RD K (Fb F T σ ρ2) H v d) := by
  cases x with
  | val d' => cases e; exact ⟨R, Ext.refl .., Sh.refl _, fun _ => h⟩
  | fr d' => cases e; exact ⟨R, Ext.refl .., Sh.refl _, fun z => absurd rfl z⟩
  | sl i =>
    have hv : σ[i]? = some (some v) := h
    have e : keepS i ρ ρ[i]? = some (d, ρ2) := e
    cases q : ρ[i]? with
    | none => rw [q] at e; cases e
    | some s =>
      rw [q] at e
      cases s with
      | cl d' =>
        cases e
        obtain ⟨u, q1, q2⟩ := R.cl i d q
        rw [hv] at q1; cases q1
        exact ⟨R, Ext.refl .., Sh.refl _, fun _ => q2⟩
      | ow d' =>
        cases e
        obtain ⟨r1, r2, r3⟩ := R.share q hv
        exact ⟨r1, r2, Sh.one q, fun _ => r3⟩
      | _ => cases e
theorem VOk.sh {ρ ρ2 : Ev} {v : V} {x : Op} (h : VOk K F T H σ ρ v x) (R : Rel K F T H σ ρ) (e : Ext σ ρ H σ ρ2 H) : VOk K F T H σ ρ2 v x := h.ext R e (fun _ z => z) fun _ z => .inl z
/-- new lists in arguments that are kept: they stay forbidden, so they may not be kept (a new list is kept by the rule of kept arguments alone) -/
def noFr : List Md → List Op → Bool
  | .kp :: ms, .fr _ :: xs => false
  | _ :: ms, _ :: xs => noFr ms xs
  | _, _ => true
theorem prep_ok : ∀ {md : List Md} {vs : List V} {xs : List Op} {ρ ρ2 : Ev} {ds : List D} {is : List Nat}, Rel K F T H σ ρ → VOks K F T H σ ρ vs xs → noFr md xs = true → prep md xs ρ = some (ds, is, ρ2) →
    Rel K F T H σ ρ2 ∧ Ext σ ρ H σ ρ2 H ∧ Sh ρ ρ2 ∧ PreA K F T H σ ρ2 md vs xs ds is
  | [], _, [], ρ, _, _, _, R, .nil, _, e => by
    cases e
    exact ⟨R, Ext.refl .., Sh.refl _, .nil⟩
  | [], _, _ :: _, _, _, _, _, _, _, _, e => by cases e
  | m :: _, _, [], _, _, _, _, _, _, _, e => by cases m <;> cases e
  | .pl :: ms, _, x :: xs, ρ, ρ2, ds, is, R, .cons (v := v) (vs := vs) h q, nf, e => by
    have e : (rd ρ x).bind (fun d => (prep ms xs ρ).bind fun r => some (d :: r.1, r.2.1, r.2.2)) = some (ds, is, ρ2) := e
    cases e1 : rd ρ x with
    | none => rw [e1] at e; cases e
    | some d =>
      rw [e1] at e
      have e : (prep ms xs ρ).bind (fun r => some (d :: r.1, r.2.1, r.2.2)) = some (ds, is, ρ2) := e
      cases e2 : prep ms xs ρ with
      | none => rw [e2] at e; cases e
      | some r =>
        obtain ⟨ds', is', ρ'⟩ := r
        rw [e2] at e; cases e
        obtain ⟨r1, r2, r3, r4⟩ := prep_ok R q (by cases x <;> exact nf) e2
        exact ⟨r1, r2, r3, .pl (h.sh R r2) (by rw [r3.rd]; exact e1) r4⟩
  | .kp :: ms, _, x :: xs, ρ, ρ2, ds, is, R, .cons (v := v) (vs := vs) h q, nf, e => by
    have e : (kp ρ x).bind (fun p => (prep ms xs p.2).bind fun r => some (p.1 :: r.1, r.2.1, r.2.2)) = some (ds, is, ρ2) := e
    cases e1 : kp ρ x with
    | none => rw [e1] at e; cases e
    | some p =>
      obtain ⟨d, ρ1⟩ := p
      rw [e1] at e
      have e : (prep ms xs ρ1).bind (fun r => some (d :: r.1, r.2.1, r.2.2)) = some (ds, is, ρ2) := e
      obtain ⟨k1, k2, k3, k4⟩ := kp_sh R h e1
      have nf2 : noFr ms xs = true ∧ ∀ d, x ≠ .fr d := by
        cases x with
        | fr d => cases nf
        | val d => exact ⟨nf, fun _ z => nomatch z⟩
        | sl i => exact ⟨nf, fun _ z => nomatch z⟩
      cases e2 : prep ms xs ρ1 with
      | none => rw [e2] at e; cases e
      | some r =>
        obtain ⟨ds', is', ρ'⟩ := r
        rw [e2] at e; cases e
        obtain ⟨r1, r2, r3, r4⟩ := prep_ok k1 (q.ext R k2 (fun _ z => z) fun _ z => .inl z) nf2.1 e2
        exact ⟨r1, k2.trans r2, k3.trans r3, .kp (RD.mono (r2.fb fun _ z => .inl z) _ _ (k4 (nf2.2 d))) r4⟩
  | .mu :: ms, _, .val _ :: _, _, _, _, _, _, _, _, e => by cases e
  | .mu :: ms, _, .fr _ :: _, _, _, _, _, _, _, _, e => by cases e
  | .mu :: ms, _, .sl i :: xs, ρ, ρ2, ds, is, R, .cons (v := v) (vs := vs) h q, nf, e => by
    have hv : σ[i]? = some (some v) := h
    have go : ∀ d, rdS ρ[i]? = some d → (prep ms xs ρ).bind (fun r => if i ∈ r.2.1 then none else some (d :: r.1, i :: r.2.1, r.2.2)) = some (ds, is, ρ2) → Rel K F T H σ ρ2 ∧ Ext σ ρ H σ ρ2 H ∧ Sh ρ ρ2 ∧ PreA K F T H σ ρ2 (.mu :: ms) (v :: vs) (.sl i :: xs) ds is := fun d hd e => by
      cases e2 : prep ms xs ρ with
      | none => rw [e2] at e; cases e
      | some r =>
        obtain ⟨ds', is', ρ'⟩ := r
        rw [e2] at e
        have e : (if i ∈ is' then none else some (d :: ds', i :: is', ρ')) = some (ds, is, ρ2) := e
        by_cases c : i ∈ is'
        · rw [if_pos c] at e; cases e
        · rw [if_neg c] at e; cases e
          obtain ⟨r1, r2, r3, r4⟩ := prep_ok R q nf e2
          exact ⟨r1, r2, r3, .mu hv (by rw [r3.rdS]; exact hd) c r4⟩
    have e : (match ρ[i]? with
      | some (.ow d) => (prep ms xs ρ).bind fun r => if i ∈ r.2.1 then none else some (d :: r.1, i :: r.2.1, r.2.2)
      | some (.le d) => (prep ms xs ρ).bind fun r => if i ∈ r.2.1 then none else some (d :: r.1, i :: r.2.1, r.2.2)
      | _ => none) = some (ds, is, ρ2) := e
    cases q2 : ρ[i]? with
    | none => rw [q2] at e; cases e
    | some s =>
      rw [q2] at e go
      cases s with
      | ow d => exact go d rfl e
      | le d => exact go d rfl e
      | _ => cases e
/-- the slots that get what was changed -/
theorem putA_get : ∀ {is : List Nat} {outs : List D} {ρ ρ3 : Ev}, is.Nodup → putA is outs ρ = some ρ3 → ρ3.length = ρ.length ∧ (∀ j : Nat, j ∉ is → ρ3[j]? = ρ[j]?) ∧ is.length = outs.length ∧
    ∀ (k i : Nat) d, is[k]? = some i → outs[k]? = some d → (∃ d0, ρ[i]? = some (.ow d0) ∧ ρ3[i]? = some (.ow d)) ∨ ∃ d0, ρ[i]? = some (.le d0) ∧ ρ3[i]? = some (.le d)
  | [], [], ρ, _, _, e => by cases e; exact ⟨rfl, fun _ _ => rfl, rfl, fun k i d h => by cases h⟩
  | [], _ :: _, _, _, _, e => by cases e
  | _ :: _, [], _, _, _, e => by cases e
  | i :: is, d :: outs, ρ, ρ3, nd, e => by
    obtain ⟨n1, n2⟩ := List.nodup_cons.mp nd
    have e : (putS d ρ[i]?).bind (fun s => putA is outs (ρ.set i s)) = some ρ3 := e
    cases q : putS d ρ[i]? with
    | none => rw [q] at e; cases e
    | some s =>
      rw [q] at e
      obtain ⟨h1, h2, h3, h4⟩ := putA_get n2 (show putA is outs (ρ.set i s) = some ρ3 from e)
      have hs : (∃ d0, ρ[i]? = some (.ow d0) ∧ s = .ow d) ∨ ∃ d0, ρ[i]? = some (.le d0) ∧ s = .le d := by
        cases q2 : ρ[i]? with
        | none => rw [q2] at q; cases q
        | some s0 =>
          rw [q2] at q
          cases s0 with
          | ow d0 => cases q; exact .inl ⟨d0, rfl, rfl⟩
          | le d0 => cases q; exact .inr ⟨d0, rfl, rfl⟩
          | _ => cases q
      have hi : i < ρ.length := by
        rcases hs with ⟨_, e, _⟩ | ⟨_, e, _⟩ <;> exact (List.getElem?_eq_some_iff.mp e).1
      refine ⟨by rw [h1, List.length_set], fun j hj => ?_, congrArg (· + 1) h3, fun k j d' hk hd => ?_⟩
      · have e1 : j ≠ i := fun z => hj (by rw [z]; exact List.mem_cons_self)
        rw [h2 j fun z => hj (List.mem_cons_of_mem _ z), List.getElem?_set_ne (Ne.symm e1)]
      · cases k with
        | zero =>
          cases hk; cases hd
          rw [h2 i n1, List.getElem?_set_self hi]
          rcases hs with ⟨d0, e1, e2⟩ | ⟨d0, e1, e2⟩
          · exact .inl ⟨d0, e1, by rw [e2]⟩
          · exact .inr ⟨d0, e1, by rw [e2]⟩
        | succ k =>
          have hk : is[k]? = some j := hk
          have hd : outs[k]? = some d' := hd
          have e1 : i ≠ j := fun z => n1 (by rw [z]; exact List.mem_of_getElem? hk)
          have := h4 k j d' hk hd
          rw [List.getElem?_set_ne e1] at this
          exact this
theorem Outs.get {A : Fo} : ∀ {ls : List Addr} {outs : List D} {k : Nat} {a : Addr} {d : D}, Outs K A H ls outs → ls[k]? = some a → outs[k]? = some d → OB K A H a d
  | _, _, k, _, _, .nil, h, _ => by cases h
  | _, _, 0, _, _, .cons q _, h1, h2 => by cases h1; cases h2; exact q
  | _, _, k + 1, _, _, .cons _ t, h1, h2 => Outs.get (k := k) t h1 h2
theorem Outs.len {A : Fo} : ∀ {ls : List Addr} {outs : List D}, Outs K A H ls outs → ls.length = outs.length
  | _, _, .nil => rfl
  | _, _, .cons _ t => congrArg (· + 1) (Outs.len t)
/-- the addresses of the lent slots -/
inductive Adr (σ : St) : List Nat → List Addr → Prop
  | nil : Adr σ [] []
  | cons {i : Nat} {a : Addr} {is : List Nat} {ls : List Addr} : σ[i]? = some (some (V.ref a)) → Adr σ is ls → Adr σ (i :: is) (a :: ls)
theorem Adr.mem {is : List Nat} {ls : List Addr} (h : Adr σ is ls) : (∀ a ∈ ls, ∃ i ∈ is, σ[i]? = some (some (V.ref a))) ∧ ∀ i ∈ is, ∃ (k : Nat) (a : Addr), is[k]? = some i ∧ ls[k]? = some a ∧ σ[i]? = some (some (V.ref a)) := by
  induction h with
  | nil => exact ⟨fun a h => (nomatch h), fun i h => (nomatch h)⟩
  | @cons i a is ls h t ih =>
    refine ⟨fun b hb => ?_, fun j hj => ?_⟩
    · rcases List.mem_cons.mp hb with z | z
      · subst z; exact ⟨i, List.mem_cons_self, h⟩
      · obtain ⟨j, q1, q2⟩ := ih.1 b z
        exact ⟨j, List.mem_cons_of_mem _ q1, q2⟩
    · rcases List.mem_cons.mp hj with z | z
      · subst z; exact ⟨0, a, rfl, rfl, h⟩
      · obtain ⟨k, b, q⟩ := ih.2 j z
        exact ⟨k + 1, b, q⟩
/-- the callee's arguments -/
theorem PreA.args {ρ : Ev} (R : Rel K F T H σ ρ) {L : List Addr} {I : List Nat} (hL : ∀ a ∈ L, ∃ i ∈ I, σ[i]? = some (some (V.ref a))) (hI : ∀ i ∈ I, OwnS ρ[i]? = true) : ∀ {md : List Md} {vs : List V} {xs : List Op} {ds : List D} {is : List Nat}, PreA K F T H σ ρ md vs xs ds is →
    apart md xs I = true → (∀ i ∈ is, i ∈ I) → ∃ ls, Adr σ is ls ∧ (ls.Nodup) ∧ ArgsR K (Fb F T σ ρ) (· ∈ L) H md vs ds ls
  | _, _, _, _, _, .nil, _, _ => ⟨[], .nil, List.nodup_nil, .nil⟩
  | _, _, _, _, _, .pl (ms := ms) (xs := xs) (x := x) (v := v) (d := d) h e t, ap, hi => by
    have ap' : apart ms xs I = true ∧ ∀ i, x = .sl i → i ∉ I := by
      cases x with
      | sl i =>
        have ap : (!decide (i ∈ I) && apart ms xs I) = true := ap
        simp only [Bool.and_eq_true, Bool.not_eq_true', decide_eq_false_iff_not] at ap
        exact ⟨ap.2, fun j z => by cases z; exact ap.1⟩
      | val _ => exact ⟨ap, fun j z => (nomatch z)⟩
      | fr _ => exact ⟨ap, fun j z => (nomatch z)⟩
    obtain ⟨ls, q1, q2, q3⟩ := PreA.args R hL hI t ap'.1 hi
    refine ⟨ls, q1, q2, .pl ?_ q3⟩
    have osL : ∀ a ∈ L, OS σ ρ a := fun a ha => by
      obtain ⟨i, h1, h2⟩ := hL a ha
      exact ⟨i, hI i h1, h2⟩
    have ofOB : ∀ {a}, OB K (Fb F T σ ρ) H a d → a ∉ L → v = .ref a → AR K (Fb F T σ ρ) (· ∈ L) H v d := fun {a} ob na ev => by
      cases d with
      | list es => obtain ⟨ys, p1, p2⟩ := ob; exact .inr ⟨a, ev, .inl ⟨es, ys, rfl, .inl ⟨.inl p1, na⟩, p2⟩⟩
      | dict ks => obtain ⟨ys, p1, p2⟩ := ob; exact .inr ⟨a, ev, .inr ⟨ks, ys, rfl, p1, na, p2⟩⟩
      | _ => exact ob.elim
    cases x with
    | val d' => cases e; exact .inl h
    | fr d' =>
      cases e
      obtain ⟨a, ev, ta, ob, _⟩ := h
      exact ofOB ob (fun z => (R.os (osL a z)).2.1 ta) ev
    | sl j =>
      have hv : σ[j]? = some (some v) := h
      have e : rdS ρ[j]? = some d := e
      have nj := ap'.2 j rfl
      have own : ∀ a, v = .ref a → OwnS ρ[j]? = true → a ∉ L := fun a ev o z => by
        obtain ⟨i, h1, h2⟩ := hL a z
        have : i = j := R.inj i j a (hI i h1) h2 o (by rw [hv, ev])
        exact nj (this ▸ h1)
      cases q : ρ[j]? with
      | none => rw [q] at e; cases e
      | some s =>
        rw [q] at e
        cases s with
        | un => cases e
        | cl d' =>
          cases e
          obtain ⟨u, p1, p2⟩ := R.cl j d q
          rw [hv] at p1; cases p1
          exact .inl p2
        | ow d' =>
          cases e
          obtain ⟨a, p1, p2, _⟩ := R.ow j d q
          rw [hv] at p1; cases p1
          exact ofOB p2 (own a rfl (by rw [q]; rfl)) rfl
        | le d' =>
          cases e
          obtain ⟨a, _, p1, p2, _⟩ := R.le j d q
          rw [hv] at p1; cases p1
          exact ofOB p2 (own a rfl (by rw [q]; rfl)) rfl
        | bo d' =>
          cases e
          obtain ⟨a, p1, p2⟩ := R.bo j d q
          rw [hv] at p1; cases p1
          have na : (∃ o, F.H0 a = some o) → ¬ F.L a → a ∉ L := fun ⟨o, ho⟩ nl z => by
            obtain ⟨i, h1, h2⟩ := hL a z
            obtain ⟨d2, e2 | e2⟩ := ownS_cases (hI i h1)
            · obtain ⟨b, r1, _, _, _, r5⟩ := R.ow i d2 e2
              rw [h2] at r1; cases r1
              rw [r5] at ho; cases ho
            · obtain ⟨b, r0, r1, _⟩ := R.le i d2 e2
              rw [h2] at r1; cases r1
              exact nl ⟨i, r0⟩
          cases d with
          | list es =>
            obtain ⟨ys, p3, p4⟩ := p2
            refine .inr ⟨a, rfl, .inl ⟨es, ys, rfl, ?_, p4⟩⟩
            rcases p3 with ⟨p3 | ⟨o, p3⟩, n⟩ | p3
            · exact .inl ⟨.inl (R.keep _ _ p3 rfl n), na ⟨_, p3⟩ n⟩
            · exact .inl ⟨.inr ⟨o, R.keep _ _ p3 rfl n⟩, na ⟨_, p3⟩ n⟩
            · exact .inr p3
          | dict ks =>
            obtain ⟨ys, p3, n, p4⟩ := p2
            exact .inr ⟨a, rfl, .inr ⟨ks, ys, rfl, R.keep _ _ p3 rfl n, na ⟨_, p3⟩ n, p4⟩⟩
          | _ => exact p2.elim
  | _, _, _, _, _, .kp (ms := ms) (xs := xs) (x := x) h t, ap, hi => by
    obtain ⟨ls, q1, q2, q3⟩ := PreA.args R hL hI t (by cases x <;> exact ap) hi
    exact ⟨ls, q1, q2, .kp h q3⟩
  | _, _, _, _, _, .mu (is := is) (i := i) (d := d) hv e ni t, ap, hi => by
    obtain ⟨ls, q1, q2, q3⟩ := PreA.args R hL hI t ap fun j hj => hi j (List.mem_cons_of_mem _ hj)
    have o := hI i (hi i List.mem_cons_self)
    have : ∃ a, σ[i]? = some (some (V.ref a)) ∧ OB K (Fb F T σ ρ) H a d := by
      obtain ⟨d2, e2 | e2⟩ := ownS_cases o
      · rw [e2] at e; cases e
        obtain ⟨a, p1, p2, _⟩ := R.ow i d e2
        exact ⟨a, p1, p2⟩
      · rw [e2] at e; cases e
        obtain ⟨a, _, p1, p2, _⟩ := R.le i d e2
        exact ⟨a, p1, p2⟩
    obtain ⟨a, p1, p2⟩ := this
    rw [hv] at p1; cases p1
    refine ⟨a :: ls, .cons hv q1, List.nodup_cons.mpr ⟨fun z => ?_, q2⟩, .mu p2 q3⟩
    obtain ⟨j, j1, j2⟩ := q1.mem.1 a z
    have : i = j := R.inj i j a o hv (hI j (hi j (List.mem_cons_of_mem _ j1))) j2
    exact ni (this ▸ j1)
theorem PreA.nodup {ρ : Ev} {md : List Md} {vs : List V} {xs : List Op} {ds : List D} {is : List Nat} (h : PreA K F T H σ ρ md vs xs ds is) : is.Nodup ∧ ∃ ls, (∀ i ∈ is, ∃ v, σ[i]? = some (some v)) ∧ (ls : List Nat) = is := by
  induction h with
  | nil => exact ⟨List.nodup_nil, [], fun i h => (nomatch h), rfl⟩
  | pl _ _ _ ih => exact ih
  | kp _ _ ih => exact ih
  | @mu ms vs xs ds is v i d hv _ ni _ ih =>
    obtain ⟨n, _, h, _⟩ := ih
    refine ⟨List.nodup_cons.mpr ⟨ni, n⟩, _, fun j hj => ?_, rfl⟩
    rcases List.mem_cons.mp hj with z | z
    · subst z; exact ⟨v, hv⟩
    · exact h j z
end
/-- the addresses there are -/
theorem adr_of {K : PySem.W.Frag} {F : Fc} {T : Fo} {H : Hp} {σ : St} {ρ : Ev} (R : Rel K F T H σ ρ) : ∀ (is : List Nat), (∀ i ∈ is, OwnS ρ[i]? = true) → ∃ ls, Adr σ is ls
  | [], _ => ⟨[], .nil⟩
  | i :: is, h => by
    obtain ⟨ls, q⟩ := adr_of R is fun j hj => h j (List.mem_cons_of_mem _ hj)
    obtain ⟨d2, e2 | e2⟩ := ownS_cases (h i List.mem_cons_self)
    · obtain ⟨a, p1, _⟩ := R.ow i d2 e2
      exact ⟨a :: ls, .cons p1 q⟩
    · obtain ⟨a, _, p1, _⟩ := R.le i d2 e2
      exact ⟨a :: ls, .cons p1 q⟩
theorem Adr.inj {σ : St} : ∀ {is : List Nat} {l1 l2 : List Addr}, Adr σ is l1 → Adr σ is l2 → l1 = l2
  | _, _, _, .nil, .nil => rfl
  | _, _, _, .cons h t, .cons h' t' => by
    rw [h] at h'; cases h'
    rw [Adr.inj t t']
theorem putA_own : ∀ {is : List Nat} {outs : List D} {ρ ρ3 : Ev}, putA is outs ρ = some ρ3 → is.Nodup → ∀ i ∈ is, OwnS ρ[i]? = true := fun {is outs ρ ρ3} e nd i hi => by
  obtain ⟨_, _, hl, h⟩ := putA_get nd e
  obtain ⟨k, hk, hk2⟩ := List.getElem_of_mem hi
  have h1 : is[k]? = some i := by rw [List.getElem?_eq_getElem hk, hk2]
  have h2 : ∃ d, outs[k]? = some d := ⟨outs[k]'(by rw [← hl]; exact hk), List.getElem?_eq_getElem _⟩
  obtain ⟨d, h2⟩ := h2
  rcases h k i d h1 h2 with ⟨_, e, _⟩ | ⟨_, e, _⟩ <;> (rw [e]; rfl)
section
variable {K : PySem.W.Frag} {F : Fc} {T : Fo} {H H' : Hp} {σ : St} {ρ ρ3 : Ev}
theorem Outs.less {A A' : Fo} (h : ∀ b, A' b → A b) : ∀ {ls : List Addr} {ds : List D}, Outs K A H ls ds → Outs K A' H ls ds
  | _, _, .nil => .nil
  | _, _, .cons o t => .cons (o.mono (Le.less h) fun _ z => z) (t.less h)
/-- behind a call: the lent slots hold what was made of them -/
theorem Rel.put (R : Rel K F T H σ ρ) {T' : Fo} (tn : ∀ b, T' b → T b ∨ (H b = none ∧ H' b ≠ none)) {is : List Nat} {ls : List Addr} {outs : List D} (nd : is.Nodup) (ad : Adr σ is ls) (lv : Leave F.tb ls H H') (ou : Outs K (Fb F T' σ ρ) H' ls outs) (e : putA is outs ρ = some ρ3) : Rel K F T' H' σ ρ3 ∧ Ext σ ρ H σ ρ3 H' ∧ ∀ b, OS σ ρ3 b → OS σ ρ b := by
  obtain ⟨g1, g2, g3, g4⟩ := putA_get nd e
  have own := putA_own e nd
  obtain ⟨ad1, ad2⟩ := ad.mem
  have lsO : ∀ a ∈ ls, OS σ ρ a := fun a ha => by
    obtain ⟨i, h1, h2⟩ := ad1 a ha
    exact ⟨i, own i h1, h2⟩
  -- a lent slot's place
  have pl : ∀ i ∈ is, ∃ k a d, is[k]? = some i ∧ σ[i]? = some (some (V.ref a)) ∧ outs[k]? = some d ∧ OB K (Fb F T' σ ρ) H' a d ∧ ((∃ d0, ρ[i]? = some (.ow d0) ∧ ρ3[i]? = some (.ow d)) ∨ ∃ d0, ρ[i]? = some (.le d0) ∧ ρ3[i]? = some (.le d)) := fun i hi => by
    obtain ⟨k, a, q1, q2, q3⟩ := ad2 i hi
    have hk : k < outs.length := by rw [← ou.len]; exact (List.getElem?_eq_some_iff.mp q2).1
    have q4 : outs[k]? = some outs[k] := List.getElem?_eq_getElem hk
    exact ⟨k, a, outs[k], q1, q3, q4, ou.get q2 q4, g4 k i _ q1 q4⟩
  have ownS : ∀ i, OwnS ρ3[i]? = OwnS ρ[i]? := fun i => by
    by_cases hi : i ∈ is
    · obtain ⟨_, _, _, _, _, _, _, q⟩ := pl i hi
      rcases q with ⟨_, e1, e2⟩ | ⟨_, e1, e2⟩ <;> (rw [e1, e2]; rfl)
    · rw [g2 i hi]
  have os : ∀ b, OS σ ρ3 b ↔ OS σ ρ b := fun b => ⟨fun ⟨i, h1, h2⟩ => ⟨i, by rw [← ownS]; exact h1, h2⟩, fun ⟨i, h1, h2⟩ => ⟨i, by rw [ownS]; exact h1, h2⟩⟩
  have fe : Fb F T' σ ρ3 = Fb F T' σ ρ := by
    funext b
    unfold Fb
    rw [propext (os b)]
  have l : Le (Fb F T σ ρ) H (Fb F T' σ ρ) H' := ⟨fun b o q t n => lv.kept b o q t fun z => n (.inr (.inr (lsO b z))), fun b z => by
    rcases z with z | z | z
    · exact .inl (.inl z)
    · exact (tn b z).imp (fun z => .inr (.inl z)) fun z => z.1
    · exact .inl (.inr (.inr z)), lv.dom⟩
  have nT : ∀ b, OS σ ρ b → ¬ T' b := fun b q z => by
    obtain ⟨_, q2, o, ho⟩ := R.os q
    rcases tn b z with z | z
    · exact q2 z
    · rw [ho] at z; cases z.1
  have out : ∀ (i : Nat) a, i ∉ is → OwnS ρ[i]? = true → σ[i]? = some (some (V.ref a)) → a ∉ ls := fun i a hi o hv z => by
    obtain ⟨j, h1, h2⟩ := ad1 a z
    have : i = j := R.inj i j a o hv (own j h1) h2
    exact hi (this ▸ h1)
  refine ⟨⟨by rw [g1]; exact R.len, fun i d q => ?_, fun i d q => ?_, fun i d q => ?_, fun i d q => ?_, fun i j b h1 h2 h3 h4 => R.inj i j b (by rw [← ownS]; exact h1) h2 (by rw [← ownS]; exact h3) h4, fun b o q t n => ?_, fun b h => lv.dom b (R.dom b h), fun b h => h.elim (fun z => lv.dom b (R.tdom b (.inl z))) fun z => (tn b z).elim (fun z => lv.dom b (R.tdom b (.inr z))) fun z => z.2, lv.tabs⟩, ⟨fun b o q t n => lv.kept b o q t fun z => n (lsO b z), fun b z => .inl ((os b).mp z), lv.dom⟩, fun b z => (os b).mp z⟩
  · rw [fe]
    have hi : i ∉ is := fun z => by
      have := ownS i
      rw [q, own i z] at this; cases this
    rw [g2 i hi] at q
    obtain ⟨v, p1, p2⟩ := R.cl i d q
    exact ⟨v, p1, RD.mono l _ _ p2⟩
  · rw [fe]
    have hi : i ∉ is := fun z => by
      have := ownS i
      rw [q, own i z] at this; cases this
    rw [g2 i hi] at q
    obtain ⟨v, p1, p2⟩ := R.bo i d q
    exact ⟨v, p1, p2.mono l⟩
  · rw [fe]
    by_cases hi : i ∈ is
    · obtain ⟨k, a, d', q1, q2, q3, q4, q5⟩ := pl i hi
      rcases q5 with ⟨d0, e1, e2⟩ | ⟨d0, e1, e2⟩
      · rw [q] at e2; cases e2
        obtain ⟨b, p1, p2, p3, p4, p5⟩ := R.ow i d0 e1
        rw [q2] at p1; cases p1
        exact ⟨a, q2, q4, p3, nT a ⟨i, own i hi, q2⟩, p5⟩
      · rw [q] at e2; cases e2
    · rw [g2 i hi] at q
      obtain ⟨a, p1, p2, p3⟩ := R.ow i d q
      exact ⟨a, p1, p2.mono' l fun o ho t => lv.kept a o ho t (out i a hi (by rw [q]; rfl) p1), p3.1, nT a ⟨i, by rw [q]; rfl, p1⟩, p3.2.2⟩
  · rw [fe]
    by_cases hi : i ∈ is
    · obtain ⟨k, a, d', q1, q2, q3, q4, q5⟩ := pl i hi
      rcases q5 with ⟨d0, e1, e2⟩ | ⟨d0, e1, e2⟩
      · rw [q] at e2; cases e2
      · rw [q] at e2; cases e2
        obtain ⟨b, p0, p1, p2, p3, p4⟩ := R.le i d0 e1
        rw [q2] at p1; cases p1
        exact ⟨a, p0, q2, q4, p3, nT a ⟨i, own i hi, q2⟩⟩
    · rw [g2 i hi] at q
      obtain ⟨a, p0, p1, p2, p3⟩ := R.le i d q
      exact ⟨a, p0, p1, p2.mono' l fun o ho t => lv.kept a o ho t (out i a hi (by rw [q]; rfl) p1), p3.1, nT a ⟨i, by rw [q]; rfl, p1⟩⟩
  · refine lv.kept b o (R.keep b o q t n) t fun z => ?_
    obtain ⟨i, h1, h2⟩ := ad1 b z
    obtain ⟨d, e | e⟩ := ownS_cases (own i h1)
    · obtain ⟨a, p1, _, _, _, p5⟩ := R.ow i d e
      rw [h2] at p1; cases p1
      rw [p5] at q; cases q
    · obtain ⟨a, p0, p1, _⟩ := R.le i d e
      rw [h2] at p1; cases p1
      exact n ⟨i, p0⟩
end
/-- a call of a def that goes as g -/
def mCall (g : List D → FR) (md : List Md) (as : M (List Op)) : M Op := fun ρ => (as ρ).bind fun xs ρ1 => if noFr md xs = true then (match prep md xs ρ1 with
  | none => .no
  | some (ds, is, ρ2) => if apart md xs is = true then (match g ds with
    | .ok b d outs => (match putA is outs ρ2 with
      | some ρ3 => .ok (if b = true then .fr d else .val d) ρ3
      | none => .no)
    | .er x outs => (match putA is outs ρ2 with
      | some ρ3 => .er x ρ3
      | none => .no)
    | .no => .no) else .no) else .no
theorem liftCall {K : PySem.W.Frag} {F : Fc} {g : List D → FR} {md : List Md} {mas : M (List Op)} {σ : St} {H : Hp} {Q : VK} (h : liftE K F (mCall g md mas) σ H Q) : tCallS (spV K F.cn F.tb md g) (WE F.W) (liftA K F mas) σ H Q := by
  obtain ⟨T, ρ, R, h⟩ := h
  refine ⟨T, ρ, R, ?_⟩
  unfold mCall at h
  cases e1 : mas ρ with
  | no => rw [e1] at h; exact h.elim
  | er x ρ' => rw [e1] at h; exact h
  | ok xs ρ1 =>
    rw [e1] at h
    rw [Rs.bind_ok] at h
    intro T1 vs H1 t n R1 x1 q1
    by_cases nf : noFr md xs = true
    · rw [if_pos nf] at h
      cases e2 : prep md xs ρ1 with
      | none => rw [e2] at h; exact h.elim
      | some r =>
        obtain ⟨ds, is, ρ2⟩ := r
        rw [e2] at h
        dsimp only at h
        by_cases ap : apart md xs is = true
        · rw [if_pos ap] at h
          obtain ⟨R2, x2, sh, pre⟩ := prep_ok R1 q1 nf e2
          have nd := pre.nodup.1
          have main : ∀ outs ρ3, putA is outs ρ2 = some ρ3 → ∃ ls, Adr σ is ls ∧ ls.Nodup ∧ ArgsR K (Fb F T1 σ ρ2) (· ∈ ls) H1 md vs ds ls := fun outs ρ3 e => by
            have own := putA_own e nd
            obtain ⟨ls, ad⟩ := adr_of R2 is own
            obtain ⟨l2, q2, q3, q4⟩ := pre.args R2 ad.mem.1 own ap fun i h => h
            have : l2 = ls := Adr.inj q2 ad
            subst this
            exact ⟨_, ad, q3, q4⟩
          have lsA : ∀ outs ρ3, putA is outs ρ2 = some ρ3 → ∀ ls, Adr σ is ls → ∀ a ∈ ls, Fb F T1 σ ρ2 a := fun outs ρ3 e ls ad a ha => by
            obtain ⟨i, h1, h2⟩ := ad.mem.1 a ha
            exact .inr (.inr ⟨i, putA_own e nd i h1, h2⟩)
          cases eg : g ds with
          | no => rw [eg] at h; exact h.elim
          | ok b d outs =>
            rw [eg] at h
            dsimp only at h
            cases e3 : putA is outs ρ2 with
            | none => rw [e3] at h; exact h.elim
            | some ρ3 =>
              rw [e3] at h
              dsimp only at h
              obtain ⟨ls, ad, nl, ar⟩ := main outs ρ3 e3
              refine ⟨R2.tabs, Fb F T1 σ ρ2, ds, ls, fun b z => R2.fbd z, lsA outs ρ3 e3 ls ad, nl, ar, ?_⟩
              rw [eg]
              intro v H2 lv ou rr
              cases b with
              | false =>
                obtain ⟨R3, x3, o3⟩ := R2.put (T' := T1) (fun _ z => .inl z) nd ad lv (ou.less fun b z => .inl z) e3
                have x : Ext σ ρ H σ ρ3 H2 := (x1.trans x2).trans x3
                refine h v H2 ?_
                rw [if_neg Bool.false_ne_true]
                have tt : ∀ b, TTf T v (.val d) b → T1 b := fun b z => z.elim (t b) fun ⟨_, e, _⟩ => (nomatch e)
                refine ⟨R3.less tt, x, ?_, fun _ _ e => (nomatch e)⟩
                exact RD.mono (Le.less fun b z => z.elim .inl fun z => z.elim (fun z => .inr (.inl (tt b z))) fun z => .inr (.inr (o3 b z))) _ _ rr
              | true =>
                obtain ⟨a, ev, hn, ob⟩ := rr
                subst ev
                obtain ⟨o, ho⟩ := ob.at
                obtain ⟨Rg, x3, o3⟩ := R2.put (T' := fun b => T1 b ∨ b = a) (fun b z => z.imp id fun z => by subst z; exact ⟨hn, by rw [ho]; exact fun z => nomatch z⟩) nd ad lv (ou.less fun b z => by
                  rcases z with z | (z | z) | z
                  · exact .inl (.inl z)
                  · exact .inl (.inr (.inl z))
                  · subst z; exact .inr ⟨rfl, rfl⟩
                  · exact .inl (.inr (.inr z))) e3
                have x : Ext σ ρ H σ ρ3 H2 := (x1.trans x2).trans x3
                refine h (.ref a) H2 ?_
                rw [if_pos rfl]
                have tt : ∀ b, TTf T (.ref a) (.fr d) b → T1 b ∨ b = a := fun b z => z.imp (t b) fun ⟨_, _, e⟩ => by cases e; rfl
                have fl : ∀ b, Fb F (TTf T (.ref a) (.fr d)) σ ρ3 b → Fb F T1 σ ρ2 b ∨ b = a := fun b z => by
                  rcases z with z | z | z
                  · exact .inl (.inl z)
                  · exact (tt b z).imp (fun z => .inr (.inl z)) id
                  · exact .inl (.inr (.inr (o3 b z)))
                have H1none : ∀ b, H b ≠ none → H1 b ≠ none := fun b z => (x1.trans x2).dom b z
                have hnH : H a = none := by
                  cases q : H a with
                  | none => rfl
                  | some o => exact absurd hn (H1none a (by rw [q]; exact fun z => nomatch z))
                exact ⟨Rg.less tt, x, ⟨a, rfl, .inr ⟨d, rfl, rfl⟩, ob.mono (Le.less fl) (fun _ h => h), fun z => R2.tdom a (.inl z) hn, R2.h0none hn⟩, fun _ b _ e => by cases e; exact hnH⟩
          | er z outs =>
            rw [eg] at h
            dsimp only at h
            cases e3 : putA is outs ρ2 with
            | none => rw [e3] at h; exact h.elim
            | some ρ3 =>
              rw [e3] at h
              obtain ⟨ls, ad, nl, ar⟩ := main outs ρ3 e3
              refine ⟨R2.tabs, Fb F T1 σ ρ2, ds, ls, fun b z => R2.fbd z, lsA outs ρ3 e3 ls ad, nl, ar, ?_⟩
              rw [eg]
              intro c dd H2 lv ou ek
              obtain ⟨R3, x3, o3⟩ := R2.put (T' := T1) (fun _ z => .inl z) nd ad lv ou e3
              exact h c dd H2 (R3.less t) ((x1.trans x2).trans x3) ek
        · rw [if_neg ap] at h; exact h.elim
    · rw [if_neg nf] at h; exact h.elim
end Vx
set_option maxHeartbeats 2000000
namespace Vx
open PySem PySem.Spec L2
section
variable {X : Cx} {F : Fc} {mas : M (List Op)} {e : Expr} {es : List Expr} {x : Str} {p pos : Pos} {k : Nat} {f : Addr} {fd : FuncData} {ps : List Str} {md : List Md} {g : List D → FR}
theorem qe_call (FN : FnOk X.prog X.w X.K X.mg X.base (L2.CX X.prog X.w) k f fd ps (spV X.K F.cn F.tb md g)) (hr : Room k X.A) (hg : Gl X x) (hm : X.mg x = some (.ref f)) (hk : PySem.W.keepIn X.K (.ref f) = true) (hb : Binds X.K fd ps []) (tk : Takes X F.W)
    (ha : QA X F (e :: es) mas) (hdb : (x == ("__debug__" : Str)) = false := by decide) (he : starEach (e :: es) X.env = (false, eval e X.env) :: starEach es X.env := by rfl) (hpl : (backTo pos (starEach es X.env)).any (·.1) = false := by rfl) : QE X F (.Call (.Name x p) (e :: es) [] pos) (mCall g md mas) :=
  (pe_callS FN hr hg hm hk hb (fun σ => passAt tk σ) ha hdb he hpl).imp fun _ _ _ h => liftCall h
end
section
variable {K : PySem.W.Frag} {A : Fo} {H : Hp}
theorem RB.tupR {v : V} {ds : List D} (h : RB K A H v (.tuple ds)) : RD K A H v (.tuple ds) := by
  cases h with
  | rd h => exact h
  | ob e h => exact h.elim
  | ls e e2 => cases e2
theorem RB.isNon {v : V} {d : D} (h : RB K A H v d) : (v = .non ↔ d = .none) := by
  cases h with
  | rd h => cases h <;> (constructor <;> intro z <;> first | rfl | cases z)
  | ob e h =>
    subst e
    refine Iff.intro (fun z => nomatch z) fun z => ?_
    subst z; exact h.elim
  | ls e e2 => subst e e2; exact ⟨fun z => (nomatch z), fun z => (nomatch z)⟩
/-- list + list, of any kind -/
def rCatL (K : PySem.W.Frag) : R2 := fun x y H Q => ∃ l b xs zs, x = .ref l ∧ y = .ref b ∧ SqL K H l xs ∧ SqL K H b zs ∧ xs.length + zs.length ≤ sizeLine ∧ ∀ p, H p = none → Q (.ref p) (upd H p (.lst (xs ++ zs)))
theorem op_catL {X : Cx} : OpR X (binaryOp .Add) (rCatL X.K) := by
  intro pins s σ H x y v u Q I rx ry h
  obtain ⟨l, b, xs, zs, rfl, rfl, hH, hB, hz, q⟩ := h
  cases rx
  cases ry
  obtain ⟨its, r, pl, z⟩ := I.list hH
  obtain ⟨its2, r2, pl2, z2⟩ := I.list hB
  have hl := r.length
  have hl2 := r2.length
  obtain ⟨⟨cls, dd, data, sl⟩, ho, hc, n, hd⟩ := pl.isList
  obtain ⟨⟨cls2, dd2, data2, sl2⟩, ho2, hc2, n2, hd2⟩ := pl2.isList
  simp only at hc hd hc2 hd2
  subst hc hd hc2 hd2
  have ea : its.toArray ++ its2.toArray = (its ++ its2).toArray := by simp
  refine PySem.concat_meets ⟨_, ho, rfl⟩ ⟨_, ho2, rfl⟩ PySem.noFill_list_add PySem.seq_list_add PySem.F.slot_list_add PySem.F.entry_list_add (PySem.F.args_list_add_2 _ _) (PyProof.Rows.list_addW l b its.toArray its2.toArray n n2 dd dd2 sl sl2 (by rw [List.size_toArray, List.size_toArray]; omega)) ⟨ho, ho2, ?_⟩
  rw [ea]
  exact ⟨.ref _, _, I.lnew (t' := s.toks) (r.append r2) (by rw [List.length_append]; omega), rfl, q _ I.fresh⟩
/-- a list times an int -/
def rRepL (K : PySem.W.Frag) : R2 := fun x y H Q => ∃ l k xs, x = .ref l ∧ y = .int k ∧ SqL K H l xs ∧ -(2 ^ 63) ≤ k ∧ k < 2 ^ 63 ∧ xs.length * k.toNat ≤ sizeLine ∧ ∀ p, H p = none → Q (.ref p) (upd H p (.lst (List.replicate k.toNat xs).flatten))
theorem RDs.app {a b : List V} {ds es : List D} (h : RDs K A H a ds) (q : RDs K A H b es) : RDs K A H (a ++ b) (ds ++ es) := by
  induction ds generalizing a with
  | nil => cases h; exact q
  | cons d ds ih =>
    cases h with
    | cons r t => exact .cons r (ih t)
end
section
variable {X : Cx}
def f2I (g : Int → Int → Option D) : D → D → Option Op
  | .int i, .int j => (g i j).map .val
  | _, _ => none
@[simp] theorem f2I_int (g : Int → Int → Option D) (i j : Int) : f2I g (.int i) (.int j) = (g i j).map .val := rfl
def rdV : D → Option V
  | .int i => some (.int i)
  | .bool b => some (.bl b)
  | .str z => some (.str z)
  | .none => some .non
  | _ => none
theorem rdV_rd {K : PySem.W.Frag} {A : Fo} {H : Hp} {d : D} {v : V} (h : rdV d = some v) : RD K A H v d := by
  cases d <;> cases h <;> first | exact .int _ | exact .bl _ | exact .str _ | exact .non
theorem p2_rI {K : PySem.W.Frag} {C : Int → Int → Prop} {g : Int → Int → V} {G : Int → Int → Option D} (h : ∀ i j d, G i j = some d → C i j ∧ rdV d = some (g i j)) : P2 K (rI C g) (f2I G) := by
  intro A H x y a b op Q hA ha hb e q
  cases a <;> try cases e
  cases b <;> try cases e
  rename_i i j
  have e : (G i j).map Op.val = some op := e
  cases eg : G i j with
  | none => rw [eg] at e; cases e
  | some d =>
    rw [eg] at e; cases e
    obtain ⟨c, r⟩ := h i j d eg
    exact ⟨i, j, ha.int, hb.int, c, q _ _ (pr_val (rdV_rd r))⟩
theorem p2_rI0 {K : PySem.W.Frag} {g : Int → Int → V} {G : Int → Int → Option D} (h : ∀ i j d, G i j = some d → rdV d = some (g i j)) : P2 K (rI0 g) (f2I G) := by
  intro A H x y a b op Q hA ha hb e q
  cases a <;> try cases e
  cases b <;> try cases e
  rename_i i j
  have e : (G i j).map Op.val = some op := e
  cases eg : G i j with
  | none => rw [eg] at e; cases e
  | some d =>
    rw [eg] at e; cases e
    exact ⟨i, j, ha.int, hb.int, q _ _ (pr_val (rdV_rd (h i j d eg)))⟩
def fSub := f2I fun i j => some (.int (i - j))
theorem p_sub : P2 X.K (rI0 fun i j => .int (i - j)) fSub := p2_rI0 fun i j d e => by cases e; rfl
def fLt := f2I fun i j => some (.bool (decide (i < j)))
def fLe := f2I fun i j => some (.bool (decide (i ≤ j)))
def fGt := f2I fun i j => some (.bool (decide (j < i)))
def fGe := f2I fun i j => some (.bool (decide (j ≤ i)))
theorem p_lt : P2 X.K (rI0 fun i j => .bl (decide (i < j))) fLt := p2_rI0 fun i j d e => by cases e; rfl
theorem p_le : P2 X.K (rI0 fun i j => .bl (decide (i ≤ j))) fLe := p2_rI0 fun i j d e => by cases e; rfl
theorem p_gt : P2 X.K (rI0 fun i j => .bl (decide (j < i))) fGt := p2_rI0 fun i j d e => by cases e; rfl
theorem p_ge : P2 X.K (rI0 fun i j => .bl (decide (j ≤ i))) fGe := p2_rI0 fun i j d e => by cases e; rfl
def okDiv (j : Int) : Bool := decide (0 < j) && decide (j < 1073741824)
def okDivW (j : Int) : Bool := decide (0 < j) && decide (j.natAbs.log2 < 9000)
def fDiv := f2I fun i j => if okDivW j = true then some (.int (i / j)) else none
def fMod := f2I fun i j => if decide (0 < j) = true then some (.int (i % j)) else none
def okPow (i j : Int) : Bool := decide (0 ≤ j) && decide (j ≤ 1000000) && decide (i.natAbs < 2 ^ 64)
def fPow := f2I fun i j => if okPow i j = true then some (.int (i ^ j.toNat)) else none
def fShl := f2I fun i j => if okPow i j = true then some (.int (i * 2 ^ j.toNat)) else none
theorem p_div : P2 X.K (rI CDivW fun i j => .int (i / j)) fDiv := p2_rI fun i j d e => by
  by_cases c : okDivW j = true
  · rw [if_pos c] at e; cases e
    simp only [okDivW, Bool.and_eq_true, decide_eq_true_eq] at c
    exact ⟨show CDivW i j from And.intro c.1 c.2, rfl⟩
  · rw [if_neg c] at e; cases e
theorem p_mod : P2 X.K (rI (fun _ j => 0 < j) fun i j => .int (i % j)) fMod := p2_rI fun i j d e => by
  by_cases c : decide (0 < j) = true
  · rw [if_pos c] at e; cases e
    exact ⟨of_decide_eq_true c, rfl⟩
  · rw [if_neg c] at e; cases e
theorem okPow_c {i j : Int} (c : okPow i j = true) : CPow i j := by
  simp only [okPow, Bool.and_eq_true, decide_eq_true_eq] at c
  exact ⟨c.1.1, c.1.2, c.2⟩
theorem p_pow : P2 X.K (rI CPow fun i j => .int (i ^ j.toNat)) fPow := p2_rI fun i j d e => by
  by_cases c : okPow i j = true
  · rw [if_pos c] at e; cases e
    exact ⟨okPow_c c, rfl⟩
  · rw [if_neg c] at e; cases e
theorem p_shl : P2 X.K (rI CPow fun i j => .int (i * 2 ^ j.toNat)) fShl := p2_rI fun i j d e => by
  by_cases c : okPow i j = true
  · rw [if_pos c] at e; cases e
    exact ⟨okPow_c c, rfl⟩
  · rw [if_neg c] at e; cases e
def fAdd : D → D → Option Op
  | .int i, .int j => some (.val (.int (i + j)))
  | .str i, .str j => if i.length + j.length ≤ sizeLine then some (.val (.str (i ++ j))) else none
  | .list xs, .list ys => if xs.length + ys.length ≤ sizeLine then some (.fr (.list (xs ++ ys))) else none
  | .tuple xs, .tuple ys => if xs.length + ys.length ≤ sizeLine then some (.val (.tuple (xs ++ ys))) else none
  | _, _ => none
@[simp] theorem fAdd_int (i j : Int) : fAdd (.int i) (.int j) = some (.val (.int (i + j))) := rfl
@[simp] theorem fAdd_list (i j : List D) : fAdd (.list i) (.list j) = if i.length + j.length ≤ sizeLine then some (.fr (.list (i ++ j))) else none := rfl
@[simp] theorem fAdd_tup (i j : List D) : fAdd (.tuple i) (.tuple j) = if i.length + j.length ≤ sizeLine then some (.val (.tuple (i ++ j))) else none := rfl
@[simp] theorem fAdd_str (i j : Str) : fAdd (.str i) (.str j) = if i.length + j.length ≤ sizeLine then some (.val (.str (i ++ j))) else none := rfl
def rAddI : R2 := rI0 fun i j => .int (i + j)
def rAddS : R2 := fun x y H Q => ∃ i j, x = .str i ∧ y = .str j ∧ i.length + j.length ≤ sizeLine ∧ Q (.str (i ++ j)) H
def rAdd (K : PySem.W.Frag) : R2 := fun x y H Q => (rAddI x y H Q ∨ rAddS x y H Q) ∨ (rCatL K x y H Q ∨ rCatA K x y H Q)
theorem o_add : OpR X (binaryOp .Add) (rAdd X.K) := OpR.or (OpR.or op_add op_add_str) (OpR.or op_catL op_catA)
theorem p_add : P2 X.K (rAdd X.K) fAdd := by
  intro A H x y a b op Q hA ha hb e q
  cases a with
  | int i =>
    cases b <;> try cases e
    exact .inl (.inl ⟨i, _, ha.int, hb.int, q _ _ (pr_val (.int _))⟩)
  | str i =>
    cases b <;> try cases e
    rename_i j
    have e : (if i.length + j.length ≤ sizeLine then some (Op.val (.str (i ++ j))) else none) = some op := e
    by_cases c : i.length + j.length ≤ sizeLine
    · rw [if_pos c] at e; cases e
      exact .inl (.inr ⟨i, j, ha.str, hb.str, c, q _ _ (pr_val (.str _))⟩)
    · rw [if_neg c] at e; cases e
  | list xs =>
    cases b <;> try cases e
    rename_i ys
    have e : (if xs.length + ys.length ≤ sizeLine then some (Op.fr (.list (xs ++ ys))) else none) = some op := e
    by_cases c : xs.length + ys.length ≤ sizeLine
    · rw [if_pos c] at e; cases e
      obtain ⟨l, us, e1, s1, r1⟩ := ha.lst
      obtain ⟨l2, us2, e2, s2, r2⟩ := hb.lst
      exact .inr (.inl ⟨l, l2, us, us2, e1, e2, s1, s2, by rw [r1.length, r2.length]; exact c, fun p hp => q _ _ (pr_lst hp (r1.app r2))⟩)
    · rw [if_neg c] at e; cases e
  | tuple xs =>
    cases b <;> try cases e
    rename_i ys
    have e : (if xs.length + ys.length ≤ sizeLine then some (Op.val (.tuple (xs ++ ys))) else none) = some op := e
    by_cases c : xs.length + ys.length ≤ sizeLine
    · rw [if_pos c] at e; cases e
      obtain ⟨l, us, e1, s1, r1⟩ := ha.tup
      obtain ⟨l2, us2, e2, s2, r2⟩ := hb.tup
      refine .inr (.inr ⟨l, l2, us, us2, e1, e2, s1, s2, by rw [r1.length, r2.length]; exact c, fun z => ?_, fun _ z => ?_, fun _ _ p hp => q _ _ (pr_tup hp hA (r1.app r2))⟩)
      · subst z; cases r1
        exact q _ _ (pr_val (by rw [← e2]; exact hb.tupR))
      · subst z; cases r2
        rw [List.append_nil] at q
        exact q _ _ (pr_val (by rw [← e1]; exact ha.tupR))
    · rw [if_neg c] at e; cases e
  | _ => cases e
end
end Vx
set_option maxHeartbeats 2000000
namespace Vx
open PySem PySem.Spec L2
section
variable {X : Cx} {K : PySem.W.Frag}
def okMul (i j : Int) : Bool := decide ((Builtin.Int.intBits i : Int) + (Builtin.Int.intBits j : Int) ≤ 134217728)
def fMul := f2I fun i j => if okMul i j = true then some (.int (i * j)) else none
theorem p_mul : P2 K (rI CMulX fun i j => .int (i * j)) fMul := p2_rI fun i j d e => by
  by_cases c : okMul i j = true
  · rw [if_pos c] at e; cases e
    exact ⟨show (Builtin.Int.intBits i : Int) + (Builtin.Int.intBits j : Int) ≤ 134217728 from of_decide_eq_true c, rfl⟩
  · rw [if_neg c] at e; cases e
/-- small enough -/
theorem okMul_of {i j : Int} {a b : Nat} (ha : i.natAbs < 2 ^ a) (hb : j.natAbs < 2 ^ b) (h : a + b ≤ 134217728) : okMul i j = true := decide_eq_true (show (Builtin.Int.intBits i : Int) + (Builtin.Int.intBits j : Int) ≤ 134217728 from mulx_ok ha hb h)
def fNeg : D → Option Op
  | .int i => some (.val (.int (-i)))
  | _ => none
@[simp] theorem fNeg_int (i : Int) : fNeg (.int i) = some (.val (.int (-i))) := rfl
theorem p_neg : P1 K (rU fun i => .int (-i)) fNeg := by
  intro A H x a op Q hA ha e q
  cases a <;> try cases e
  exact ⟨_, ha.int, q _ _ (pr_val (.int _))⟩
def okS (a : D) : Bool := SeqAt.shaped a
def fEq (a b : D) : Option Op := if (okS a && okS b) = true then some (.val (.bool (PyData.eqv a b))) else none
def fNe (a b : D) : Option Op := if (okS a && okS b) = true then some (.val (.bool (!PyData.eqv a b))) else none
theorem p_eq : P2 K (rEqD K) fEq := by
  intro A H x y a b op Q hA ha hb e q
  have e : (if (okS a && okS b) = true then some (Op.val (.bool (PyData.eqv a b))) else none) = some op := e
  by_cases c : (okS a && okS b) = true
  · rw [if_pos c] at e; cases e
    obtain ⟨c1, c2⟩ := Bool.and_eq_true_iff.mp c
    exact ⟨a, b, ha.dp (noDict_shaped c1), hb.dp (noDict_shaped c2), c1, c2, q _ _ (pr_val (.bl _))⟩
  · rw [if_neg c] at e; cases e
theorem p_ne : P2 K (rNeD K) fNe := by
  intro A H x y a b op Q hA ha hb e q
  have e : (if (okS a && okS b) = true then some (Op.val (.bool (!PyData.eqv a b))) else none) = some op := e
  by_cases c : (okS a && okS b) = true
  · rw [if_pos c] at e; cases e
    obtain ⟨c1, c2⟩ := Bool.and_eq_true_iff.mp c
    exact ⟨a, b, ha.dp (noDict_shaped c1), hb.dp (noDict_shaped c2), c1, c2, q _ _ (pr_val (.bl _))⟩
  · rw [if_neg c] at e; cases e
def rdVs : List D → Option (List V)
  | [] => some []
  | d :: ds => (rdV d).bind fun v => (rdVs ds).bind fun vs => some (v :: vs)
theorem RD.rdV_eq {A : Fo} {H : Hp} {d : D} {v u : V} (h : RD K A H v d) (e : rdV d = some u) : v = u := by
  cases d <;> try cases e
  all_goals (cases h; rfl)
theorem RB.rdV_eq {A : Fo} {H : Hp} {d : D} {v u : V} (h : RB K A H v d) (e : rdV d = some u) : v = u := by
  cases d <;> try cases e
  · exact h.non
  · exact h.bl
  · exact h.int
  · exact h.str
theorem rdV_flat {d : D} {u : V} (e : rdV d = some u) : flatV u = true := by
  cases d <;> cases e <;> rfl
theorem RDs.rdVs_eq {A : Fo} {H : Hp} : ∀ {ds : List D} {vs us : List V}, RDs K A H vs ds → rdVs ds = some us → vs = us ∧ us.all flatV = true
  | [], _, _, .nil, e => by cases e; exact ⟨rfl, rfl⟩
  | d :: ds, _, us, .cons h t, e => by
    have e : (rdV d).bind (fun v => (rdVs ds).bind fun vs => some (v :: vs)) = some us := e
    cases e1 : rdV d with
    | none => rw [e1] at e; cases e
    | some u =>
      rw [e1] at e
      have e : (rdVs ds).bind (fun vs => some (u :: vs)) = some us := e
      cases e2 : rdVs ds with
      | none => rw [e2] at e; cases e
      | some us' =>
        rw [e2] at e; cases e
        obtain ⟨q1, q2⟩ := RDs.rdVs_eq t e2
        exact ⟨by rw [h.rdV_eq e1, q1], by rw [List.all_cons, rdV_flat e1, q2]; rfl⟩
def inF (a : D) (ds : List D) : Option Bool := (rdV a).bind fun u => (rdVs ds).bind fun us => some (inV u us)
def inDp (a : D) (ds : List D) : Option Bool := if (okS a && okS (.list ds)) = true then some (ds.any fun z => PyData.eqv z a) else none
def inO : Option Bool → Option Bool → Option Bool
  | some b, _ => some b
  | none, o => o
def inB (a : D) : D → Option Bool
  | .tuple ds => inF a ds
  | .list ds => inO (inF a ds) (inDp a ds)
  | _ => none
def fIn (a b : D) : Option Op := (inB a b).map fun k => .val (.bool k)
def fNotIn (a b : D) : Option Op := (inB a b).map fun k => .val (.bool (!k))
def rInA (K : PySem.W.Frag) (neg : Bool) : R2 := fun x y H Q => rIn K neg x y H Q ∨ (if neg = true then rNotInD K x y H Q else rInD K x y H Q)
theorem o_in (hu : X.A.units + 65 < cLine) : OpR X (compareOp .In) (rInA X.K false) := OpR.or op_in_seq (op_inD hu)
theorem o_notIn (hu : X.A.units + 65 < cLine) : OpR X (compareOp .NotIn) (rInA X.K true) := OpR.or op_notIn_seq (op_notInD hu)
theorem in_core {A : Fo} {H : Hp} {x y : V} {a b : D} {k neg : Bool} {Q : VK} (ha : RB K A H x a) (hb : RB K A H y b) (e : inB a b = some k) (q : Q (.bl (if neg then !k else k)) H) : rInA K neg x y H Q := by
  have fl : ∀ (ds : List D) p vs, y = .ref p → (SqL K H p vs ∨ SqT K H p vs) → RDs K A H vs ds → inF a ds = some k → rInA K neg x y H Q := fun ds p vs ey sq r e => by
    unfold inF at e
    cases e1 : rdV a with
    | none => rw [e1] at e; cases e
    | some u =>
      rw [e1] at e
      have e : (rdVs ds).bind (fun us => some (inV u us)) = some k := e
      cases e2 : rdVs ds with
      | none => rw [e2] at e; cases e
      | some us =>
        rw [e2] at e; cases e
        obtain ⟨q1, q2⟩ := r.rdVs_eq e2
        have q3 := ha.rdV_eq e1
        subst q1 q3
        exact .inl ⟨p, vs, ey, sq, rdV_flat e1, q2, q⟩
  cases b with
  | tuple ds =>
    obtain ⟨p, vs, ey, s, r⟩ := hb.tup
    exact fl ds p vs ey (.inr s) r e
  | list ds =>
    obtain ⟨p, vs, ey, s, r⟩ := hb.lst
    have e : inO (inF a ds) (inDp a ds) = some k := e
    cases e1 : inF a ds with
    | some k' => rw [e1] at e; cases e; exact fl ds p vs ey (.inl s) r e1
    | none =>
      rw [e1] at e
      have e : (if (okS a && okS (.list ds)) = true then some (ds.any fun z => PyData.eqv z a) else none) = some k := e
      by_cases c : (okS a && okS (.list ds)) = true
      · rw [if_pos c] at e; cases e
        obtain ⟨c1, c2⟩ := Bool.and_eq_true_iff.mp c
        refine .inr ?_
        cases neg with
        | true => rw [if_pos rfl]; exact ⟨a, ds, ha.dp (noDict_shaped c1), hb.dp (noDict_shaped c2), c1, c2, q⟩
        | false => rw [if_neg Bool.false_ne_true]; exact ⟨a, ds, ha.dp (noDict_shaped c1), hb.dp (noDict_shaped c2), c1, c2, q⟩
      · rw [if_neg c] at e; cases e
  | _ => cases e
theorem p_in : P2 K (rInA K false) fIn := by
  intro A H x y a b op Q hA ha hb e q
  unfold fIn at e
  cases e1 : inB a b with
  | none => rw [e1] at e; cases e
  | some k => rw [e1] at e; cases e; exact in_core ha hb e1 (q _ _ (pr_val (.bl _)))
theorem p_notIn : P2 K (rInA K true) fNotIn := by
  intro A H x y a b op Q hA ha hb e q
  unfold fNotIn at e
  cases e1 : inB a b with
  | none => rw [e1] at e; cases e
  | some k => rw [e1] at e; cases e; exact in_core ha hb e1 (q _ _ (pr_val (.bl _)))
def isNo : D → Bool
  | .none => true
  | _ => false
def rIsNB : R2 := fun x y H Q => (y = .non ∧ Q (.bl (decide (x = .non))) H) ∨ ∃ a b, x = .bl a ∧ y = .bl b ∧ Q (.bl (decide (a = b))) H
def rNotNB : R2 := fun x y H Q => (y = .non ∧ Q (.bl (!decide (x = .non))) H) ∨ ∃ a b, x = .bl a ∧ y = .bl b ∧ Q (.bl (!decide (a = b))) H
theorem o_is : OpR X (compareOp .Is) rIsNB := OpR.or op_isN op_is_bl
theorem o_isNot : OpR X (compareOp .IsNot) rNotNB := OpR.or op_notN op_isnot_bl
def isB2 : D → D → Option Bool
  | a, .none => some (isNo a)
  | .bool i, .bool j => some (decide (i = j))
  | _, _ => none
def fIs (a b : D) : Option Op := (isB2 a b).map fun k => .val (.bool k)
def fIsNot (a b : D) : Option Op := (isB2 a b).map fun k => .val (.bool (!k))
theorem isNo_dec {A : Fo} {H : Hp} {x : V} {a : D} (h : RB K A H x a) : decide (x = .non) = isNo a := by
  have q := h.isNon
  cases a with
  | none => exact decide_eq_true (q.mpr rfl)
  | _ => exact decide_eq_false fun z => nomatch q.mp z
theorem p_is : P2 K rIsNB fIs := by
  intro A H x y a b op Q hA ha hb e q
  cases b with
  | none =>
    have e : some (Op.val (.bool (isNo a))) = some op := by cases a <;> exact e
    cases e
    exact .inl ⟨hb.non, by rw [isNo_dec ha]; exact q _ _ (pr_val (.bl _))⟩
  | bool j =>
    cases a <;> try cases e
    exact .inr ⟨_, _, ha.bl, hb.bl, q _ _ (pr_val (.bl _))⟩
  | _ => cases a <;> cases e
theorem p_isNot : P2 K rNotNB fIsNot := by
  intro A H x y a b op Q hA ha hb e q
  cases b with
  | none =>
    have e : some (Op.val (.bool (!isNo a))) = some op := by cases a <;> exact e
    cases e
    exact .inl ⟨hb.non, by rw [isNo_dec ha]; exact q _ _ (pr_val (.bl _))⟩
  | bool j =>
    cases a <;> try cases e
    exact .inr ⟨_, _, ha.bl, hb.bl, q _ _ (pr_val (.bl _))⟩
  | _ => cases a <;> cases e
def fIx : D → D → Option Op
  | .list ds, .int i => (atI ds i).map .val
  | .tuple ds, .int i => (atI ds i).map .val
  | .str z, .int i => if z.length ≤ sizeLine then (atI z.cps.toList i).map fun c => .val (.str ⟨#[c]⟩) else none
  | _, _ => none
@[simp] theorem fIx_list (ds : List D) (i : Int) : fIx (.list ds) (.int i) = (atI ds i).map .val := rfl
@[simp] theorem fIx_tup (ds : List D) (i : Int) : fIx (.tuple ds) (.int i) = (atI ds i).map .val := rfl
theorem RDs.atI_get {A : Fo} {H : Hp} {xs : List V} {ds : List D} {i : Int} {d : D} (h : RDs K A H xs ds) (e : atI ds i = some d) : ∃ v, atI xs i = some v ∧ RD K A H v d := by
  unfold atI at e ⊢
  rw [h.length]
  cases q : ixN ds.length i with
  | none => rw [q] at e; cases e
  | some j =>
    rw [q] at e
    obtain ⟨v, q1, q2⟩ := h.get (show ds[j]? = some d from e)
    exact ⟨v, q1, q2⟩
theorem p_ix : P2 K (rIx K) fIx := by
  intro A H x y a b op Q hA ha hb e q
  cases a with
  | list ds =>
    cases b <;> try cases e
    rename_i i
    have e : (atI ds i).map Op.val = some op := e
    cases e1 : atI ds i with
    | none => rw [e1] at e; cases e
    | some d =>
      rw [e1] at e; cases e
      obtain ⟨p, xs, ex, s, r⟩ := ha.lst
      obtain ⟨v, q1, q2⟩ := r.atI_get e1
      exact .inl ⟨p, xs, i, v, ex, hb.int, s, q1, q _ _ (pr_val q2)⟩
  | tuple ds =>
    cases b <;> try cases e
    rename_i i
    have e : (atI ds i).map Op.val = some op := e
    cases e1 : atI ds i with
    | none => rw [e1] at e; cases e
    | some d =>
      rw [e1] at e; cases e
      obtain ⟨p, xs, ex, s, r⟩ := ha.tup
      obtain ⟨v, q1, q2⟩ := r.atI_get e1
      exact .inr (.inl ⟨p, xs, i, v, ex, hb.int, s, q1, q _ _ (pr_val q2)⟩)
  | str z =>
    cases b <;> try cases e
    rename_i i
    have e : (if z.length ≤ sizeLine then (atI z.cps.toList i).map fun c => Op.val (.str ⟨#[c]⟩) else none) = some op := e
    by_cases c : z.length ≤ sizeLine
    · rw [if_pos c] at e
      cases e1 : atI z.cps.toList i with
      | none => rw [e1] at e; cases e
      | some d =>
        rw [e1] at e; cases e
        exact .inr (.inr ⟨z, i, d, ha.str, hb.int, c, e1, q _ _ (pr_val (.str _))⟩)
    · rw [if_neg c] at e; cases e
  | _ => cases e
end
end Vx
set_option maxHeartbeats 2000000
namespace HT
open PySem PyProof.Rows
section
variable {prog : Program} {w : World} {A : Around} {E : Value → Shared → Prop} {s : Shared}
theorem adjust_rev (n : Nat) : Builtin.Slice.sliceAdjust none none (-1) (n : Int) = ((n : Int) - 1, -1) := rfl
theorem places_rev (n : Nat) : Builtin.Slice.slicePlaces ((n : Int) - 1) (-1) (-1) = n := by
  unfold Builtin.Slice.slicePlaces
  have h1 : ¬ ((-1 : Int) > 0) := by omega
  simp only [h1, if_false]
  split
  · rw [show (- -1 : Int) = 1 by decide, Int.ediv_one]; omega
  · omega
theorem sliceApplied_rev {sl : Addr} {vs : Value} {n : Nat} {Q : Int × Int × Nat → Shared → Prop} (hs : s.heap.IsSliceOf sl .none .none vs) (ps : IsPart vs (some (-1)))
    (h : Q ((n : Int) - 1, -1, n) s) : wpAny (model prog w) A (Builtin.Slice.sliceApplied (.ref sl) (pure (n : Int))) Q E s := by
  obtain ⟨os, hos, hcs, hds⟩ := id hs
  unfold Builtin.Slice.sliceApplied Builtin.Slice.sliceFields
  refine wpAny_bind (wpAny_bind (wpAny_field hos hds (x := .none) rfl (wpAny_bind (wpAny_field hos hds (x := .none) rfl (wpAny_bind (wpAny_field hos hds (x := vs) rfl (wpAny_pure ?_)))))))
  refine wpAny_bind (slicePart_ ps ?_)
  show wpAny _ _ (if ((-1 : Int) == 0) = true then _ else _) _ _ s
  rw [if_neg (by decide)]
  refine wpAny_bind (slicePart_none (wpAny_bind (slicePart_none (wpAny_bind (wpAny_pure ?_)))))
  show wpAny _ _ (match Builtin.Slice.sliceAdjust none none (-1) (n : Int) with | (lo, hi) => pure (lo, (-1 : Int), Builtin.Slice.slicePlaces lo hi (-1))) _ _ s
  rw [adjust_rev n]
  show wpAny _ _ (pure ((n : Int) - 1, (-1 : Int), Builtin.Slice.slicePlaces ((n : Int) - 1) (-1) (-1))) _ _ s
  rw [places_rev]
  exact wpAny_pure h
theorem filterMap_same {α β : Type} {f g : α → Option β} : ∀ {l : List α}, (∀ x ∈ l, f x = g x) → l.filterMap f = l.filterMap g
  | [], _ => rfl
  | a :: l, h => by
    rw [List.filterMap_cons, List.filterMap_cons, h a List.mem_cons_self, filterMap_same fun x hx => h x (List.mem_cons_of_mem _ hx)]
theorem pick_rev (xs : Array Value) : ((List.range xs.size).filterMap fun (m : Nat) => xs[(((xs.size : Int) - 1) + (m : Int) * (-1)).toNat]?).toArray = xs.toList.reverse.toArray := by
  congr 1
  have e : ((List.range xs.size).filterMap fun (m : Nat) => xs[(((xs.size : Int) - 1) + (m : Int) * (-1)).toNat]?) = ((List.range xs.size).map fun k => xs.size - 1 - k).filterMap (xs[·]?) := by
    rw [List.filterMap_map]
    refine filterMap_same fun m hm => ?_
    have := List.mem_range.mp hm
    have : (((xs.size : Int) - 1) + (m : Int) * (-1)).toNat = xs.size - 1 - m := by omega
    rw [this]; rfl
  rw [e, PySem.W.krv_range, List.filterMap_reverse, PySem.W.krv_all]
theorem getItem_tuple_rev {t sl : Addr} {items : Array Value} {vs : Value} {Q : Value → Shared → Prop} (ht : IsTup s.heap t items) (hs : s.heap.IsSliceOf sl .none .none vs) (ps : IsPart vs (some (-1)))
    (h : Q (.ref s.heap.objs.size) { s with heap := s.heap.push { cls := .type "tuple", data := .seq items.toList.reverse.toArray } })
    (hsz : items.size ≤ sizeLine) : wpAny (model prog w) A (getItem (.ref t) (.ref sl)) Q E s := by
  have htake : sizeOk (.seq items.toList.reverse.toArray) := by
    show items.toList.reverse.toArray.size ≤ sizeLine
    rw [List.size_toArray, List.length_reverse, Array.length_toList]
    exact hsz
  obtain ⟨os, hos, hcs, hds⟩ := id hs
  have hTs : s.TypeIs (.ref sl) "slice" := ⟨os, hos, hcs⟩
  unfold getItem
  try with_reducible refine wpAny_holding ?_
  first | refine wpAny_bind (wpAny_pure ?_) | skip
  refine wpAny_bind (wpAny_sequenceKey ht.typeIs (by decide) ?_)
  refine wpAny_bind (wpAny_callSpecial?_slot (name := Str.ofString "__getitem__") ht.typeIs PyProof.Rows.slot_tuple_getitem
    (wpAny_call_entry PyProof.Rows.slot_tuple_getitem ht.typeIs entry_tuple_getitem ?_ (args_tuple_getitem _ _)))
  show wpAny _ _ (Builtin.Tuple.tupleItemsOf (.ref t) >>= _) _ _ s
  refine wpAny_bind (tupleItemsOf_ ht ?_)
  refine wpAny_bind (wpAny_typeOf hTs ?_)
  rw [if_pos (by decide)]
  refine wpAny_bind (sliceApplied_rev hs ps ?_)
  have hno : ¬ ((((items.size : Int) - 1) == 0 && (-1 : Int) == 1 && items.size == items.size) = true) := by
    intro q
    rw [Bool.and_eq_true, Bool.and_eq_true] at q
    exact absurd (eq_of_beq q.1.2) (by decide)
  show wpAny _ _ (if (((items.size : Int) - 1) == 0 && (-1 : Int) == 1 && items.size == items.size) = true then _ else _) _ _ s
  rw [if_neg hno, pick_rev]
  first
    | exact wpAny_bind (m := Builtin.Tuple.tupleExact _) (wpAny_newObj_type (wpAny_pure ⟨_, rfl, wpAny_pure h⟩) htake)
    | exact wpAny_bind (m := Builtin.Tuple.tupleExact _) (wpAny_newObj_type (wpAny_bind (wpAny_pure (wpAny_pure ⟨_, rfl, wpAny_pure h⟩))) htake)
    | exact wpAny_bind (wpAny_bind (m := Builtin.Tuple.tupleExact _) (wpAny_newObj_type (wpAny_pure (wpAny_pure ⟨_, rfl, wpAny_pure h⟩)) htake))
    | exact wpAny_bind (wpAny_bind (m := Builtin.Tuple.tupleExact _) (wpAny_newObj_type (wpAny_pure ⟨_, rfl, wpAny_pure h⟩) htake))
end
end HT
namespace L2
open PySem PySem.Spec PyProof.Rows
section
variable {X : Cx}
def tRevA (K : PySem.W.Frag) (te : TE) : TE := fun σ H Q => te σ H fun x H1 => ∃ a xs, x = .ref a ∧ ((SqL K H1 a xs ∧ ∀ p, H1 p = none → Q (.ref p) (upd H1 p (.lst xs.reverse))) ∨ (SqT K H1 a xs ∧ ∀ p, H1 p = none → Q (.ref p) (upd H1 p (.tup xs.reverse))))
theorem pe_revA {e : Expr} {te : TE} {k : Nat} {p1 p2 p3 pos : Pos} (he : PE X e te) : PE X (.Subscript e (.Slice none none (some (.UnaryOp .USub (.Constant (.int 1) k p1) p2)) p3) pos) (tRevA X.K te) := by
  refine ⟨fun pins s σ H Q I h => ?_⟩
  refine Subscript_ (thn (he.run pins s σ H _ I h) fun v s1 ⟨x, H1, I1, r1, q1⟩ => ?_)
  obtain ⟨a, xs, ex, q⟩ := q1
  subst ex
  cases r1
  have hst : PO X (some (.UnaryOp .USub (.Constant (.int 1) k p1) p2)) (tPart (tUn (rU fun i => .int (-i)) (tC (.int 1)))) := po_some (pe_un un_neg pe_int)
  refine wpAny_Slice (thn (po_none.run pins s1 σ H1 (fun o H2 => o = none ∧ H2 = H1) I1 ⟨rfl, rfl⟩) fun vl s2 ⟨l, H2, I2, pl, el, e2⟩ => ?_)
  subst el e2
  refine thn (po_none.run pins s2 σ H2 (fun o H3 => o = none ∧ H3 = H2) I2 ⟨rfl, rfl⟩) fun vu s3 ⟨u, H3, I3, pu, eu, e3⟩ => ?_
  subst eu e3
  refine thn (hst.run pins s3 σ H3 (fun o H4 => o = some (-1) ∧ H4 = H3) I3 ⟨1, rfl, -1, rfl, rfl, rfl⟩) fun vs s4 ⟨o, H4, I4, ps, eo, e4⟩ => ?_
  subst eo e4
  have I5 : Inv X pins σ H4 { s4 with heap := s4.heap.push { cls := .type "slice", data := .fields #[vl, vu, vs] } } := I4.kept (t' := s4.toks) fun b ob q => Heap.get?_push_of_some _ q
  show wpAny (model X.prog X.w) X.A (subscriptTail e (.Slice none none (some (.UnaryOp .USub (.Constant (.int 1) k p1) p2)) p3) (.ref a) (.ref s4.heap.objs.size)) (EP X pins σ Q) X.xe { s4 with heap := s4.heap.push { cls := .type "slice", data := .fields #[vl, vu, vs] } }
  rcases q with ⟨hx, q⟩ | ⟨hx, q⟩
  · obtain ⟨its, r, ht, hz⟩ := I5.list hx
    have hlen := r.length
    refine tail_any (ops := [.ref a, .ref s4.heap.objs.size]) ht.isList.typeIs (PySem.slot_list_getitem.lookup) ?_ (by with_unfolding_all rfl)
    refine wpAny_getItem_list_slice ht.isList (Heap.IsSliceOf.new _ vl vu vs) pl pu ps (by decide) ?_ (by rw [List.size_toArray]; omega)
    rw [PySem.W.krv_pick]
    refine ⟨.ref _, _, I5.laid (t' := s4.toks) (o := .lst xs.reverse) (fun b ob q => Heap.get?_push_of_some _ q) (Nat.le_refl _) ?_, rfl, q _ (I5.hok.fresh (Nat.le_refl _))⟩
    exact ⟨by rw [List.length_reverse]; exact hz, _, 0, r.reverse, Heap.get?_push_size _ rfl⟩
  · obtain ⟨its, r, ht, hz⟩ := I5.tuple hx
    have hlen : its.toArray.size = xs.length := by rw [List.size_toArray]; exact r.length.symm
    cases pl
    cases pu
    refine tail_any (ops := [.ref a, .ref s4.heap.objs.size]) ht.typeIs PyProof.Rows.slot_tuple_getitem.lookup ?_ (by with_unfolding_all rfl)
    refine HT.getItem_tuple_rev ht (Heap.IsSliceOf.new _ .none .none vs) ps ?_ (by rw [hlen]; exact hz)
    refine ⟨.ref _, _, I5.laid (t' := s4.toks) (o := .tup xs.reverse) (fun b ob q => Heap.get?_push_of_some _ q) (Nat.le_refl _) ?_, rfl, q _ (I5.hok.fresh (Nat.le_refl _))⟩
    exact ⟨by rw [List.length_reverse]; exact hz, _, r.reverse, IsTup.new _ _⟩
end
end L2
set_option maxHeartbeats 2000000
namespace Vx
open PySem PySem.Spec L2
def isI : D → Option Int
  | .int i => some i
  | _ => none
@[simp] theorem isI_int (i : Int) : isI (.int i) = some i := rfl
def bNo : M (Option Int) := fun ρ => .ok none ρ
def bAt (ma : M Op) : M (Option Int) := fun ρ => (ma ρ).bind fun x ρ1 => opt ρ1 ((rd ρ1 x).bind fun d => (isI d).map some)
def mSl (f : Option Int → Option Int → D → Option Op) (ma : M Op) (ml mu : M (Option Int)) : M Op := fun ρ => (ma ρ).bind fun x ρ1 => (ml ρ1).bind fun lo ρ2 => (mu ρ2).bind fun hi ρ3 => opt ρ3 ((rd ρ3 x).bind (f lo hi))
section
variable (K : PySem.W.Frag) (F : Fc)
def GO (T : Fo) (H : Hp) (σ : St) (ρ : Ev) (Q : Option Int → Hp → Prop) : Rs (Option Int) → Prop
  | .ok b ρ' => ∀ H', Rel K F T H' σ ρ' → Ext σ ρ H σ ρ' H' → Q b H'
  | .er x ρ' => ErP K F T H σ ρ x ρ'
  | .no => False
def liftO (m : M (Option Int)) : TO := fun σ H Q => ∃ T ρ, Rel K F T H σ ρ ∧ GO K F T H σ ρ Q (m ρ)
end
theorem _root_.L2.PO.imp2 {X : Cx} {e : Option Expr} {t t' : TO} (h : PO X e t) (i : ∀ σ H Q, t' σ H Q → t σ H Q) : PO X e t' := ⟨fun pins s σ H Q I q => h.run pins s σ H Q I (i _ _ _ q)⟩
section
variable {X : Cx} {F : Fc} {e : Expr} {me : M Op}
theorem qo_none : PO X none (liftO X.K F bNo) := po_none.imp2 fun σ H Q ⟨T, ρ, R, h⟩ => h H R (Ext.refl ..)
theorem qo_some (h : QE X F e me) : PO X (some e) (liftO X.K F (bAt me)) := by
  refine (po_some h).imp2 fun σ H Q ⟨T, ρ, R, h⟩ => ⟨T, ρ, R, ?_⟩
  unfold bAt at h
  cases e1 : me ρ with
  | no => rw [e1] at h; exact h.elim
  | er x ρ' => rw [e1] at h; exact h
  | ok x ρ1 =>
    rw [e1] at h
    intro v H1 p
    have h : GO X.K F T H σ ρ Q (opt ρ1 ((rd ρ1 x).bind fun d => (isI d).map some)) := h
    cases e2 : rd ρ1 x with
    | none => rw [e2] at h; exact h.elim
    | some d =>
      rw [e2] at h
      cases d <;> try exact h.elim
      rename_i i
      exact ⟨i, (p.val.rb p.rel e2).int, h H1 (p.rel.less fun _ z => .inl z) p.ext⟩
end
def P1s (K : PySem.W.Frag) (r : V → Option Int → Option Int → Hp → VK → Prop) (f : Option Int → Option Int → D → Option Op) : Prop := ∀ (A : Fo) (H : Hp) x lo hi a op (Q : VK), (∀ b, A b → H b ≠ none) → RB K A H x a → f lo hi a = some op → (∀ v H', PR K A H H' v op → Q v H') → r x lo hi H Q
theorem qe_sl {X : Cx} {F : Fc} {e : Expr} {lo hi : Option Expr} {me : M Op} {ml mu : M (Option Int)} {r : V → Option Int → Option Int → Hp → VK → Prop} {f : Option Int → Option Int → D → Option Op} {p2 pos : Pos} (hr : SlR X r) (hf : P1s X.K r f)
    (he : QE X F e me) (hl : PO X lo (liftO X.K F ml)) (hu : PO X hi (liftO X.K F mu)) : QE X F (.Subscript e (.Slice lo hi none p2) pos) (mSl f me ml mu) := by
  refine (pe_slice hr he hl hu).imp fun σ H Q ⟨T, ρ, R, h⟩ => ⟨T, ρ, R, ?_⟩
  unfold mSl at h
  cases e1 : me ρ with
  | no => rw [e1] at h; exact h.elim
  | er x ρ' => rw [e1] at h; exact h
  | ok x ρ1 =>
    rw [e1, Rs.bind_ok] at h
    intro v H1 p
    refine ⟨_, ρ1, p.rel, ?_⟩
    cases e2 : ml ρ1 with
    | no => rw [e2] at h; exact h.elim
    | er z ρ' =>
      rw [e2] at h
      exact ErP.back (show ErP X.K F T H σ ρ z ρ' from h) p.ext fun _ z => .inl z
    | ok lo ρ2 =>
      rw [e2, Rs.bind_ok] at h
      intro H2 R2 x2
      refine ⟨_, ρ2, R2, ?_⟩
      cases e3 : mu ρ2 with
      | no => rw [e3] at h; exact h.elim
      | er z ρ' =>
        rw [e3] at h
        exact ErP.back (show ErP X.K F T H σ ρ z ρ' from h) (p.ext.trans x2) fun _ z => .inl z
      | ok hi ρ3 =>
        rw [e3, Rs.bind_ok] at h
        intro H3 R3 x3
        have vx : VOk X.K F (TTf T v x) H3 σ ρ3 v x := p.val.ext p.rel (x2.trans x3) (fun _ z => z) fun _ z => .inl z
        cases e4 : rd ρ3 x with
        | none => rw [e4] at h; exact h.elim
        | some a =>
          rw [e4] at h
          have h : GE X.K F T H σ ρ Q (opt ρ3 (f lo hi a)) := h
          cases e5 : f lo hi a with
          | none => rw [e5] at h; exact h.elim
          | some op =>
            rw [e5] at h
            exact hf _ H3 v lo hi a op Q (fun _ z => R3.fbd z) (vx.rb R3 e4) e5 fun v' H' q => h v' H' (fin_ R3 ((p.ext.trans x2).trans x3) (fun _ z => .inl z) q)
def cutD (xs : List D) (lo hi : Option Int) : List D := (xs.drop (HT.sIx xs.length 0 lo)).take (HT.sIx xs.length xs.length hi - HT.sIx xs.length 0 lo)
def fSl (lo hi : Option Int) : D → Option Op
  | .list ds => some (.fr (.list (cutD ds lo hi)))
  | .tuple ds => some (.val (.tuple (cutD ds lo hi)))
  | .str z => if z.length ≤ sizeLine then some (.val (.str (cutS z lo hi))) else none
  | _ => none
def rSl (K : PySem.W.Frag) : V → Option Int → Option Int → Hp → VK → Prop := fun x lo hi H Q => (rSlL K x lo hi H Q ∨ rSlA K x lo hi H Q) ∨ rSlS x lo hi H Q
theorem s_sl {X : Cx} : SlR X (rSl X.K) := SlR.or (SlR.or sl_list sl_tupA) sl_str
section
variable {K : PySem.W.Frag} {A : Fo} {H : Hp}
theorem RDs.cut {xs : List V} {ds : List D} (h : RDs K A H xs ds) (lo hi : Option Int) : RDs K A H (cutV xs lo hi) (cutD ds lo hi) := by
  unfold cutV cutD
  rw [h.length]
  exact (h.drop _).take _
theorem cut_all {ds : List D} {lo hi : Option Int} (h : HT.sIx ds.length 0 lo = 0 ∧ HT.sIx ds.length ds.length hi = ds.length) : cutD ds lo hi = ds := by
  unfold cutD
  rw [h.1, h.2, List.drop_zero, Nat.sub_zero, List.take_length]
theorem p_sl : P1s K (rSl K) fSl := by
  intro A H x lo hi a op Q hA ha e q
  cases a with
  | list ds =>
    cases e
    obtain ⟨p, xs, ex, s, r⟩ := ha.lst
    exact .inl (.inl ⟨p, xs, ex, s, fun l hl => q _ _ (pr_lst hl (r.cut lo hi))⟩)
  | tuple ds =>
    cases e
    obtain ⟨p, xs, ex, s, r⟩ := ha.tup
    refine .inl (.inr ⟨p, xs, ex, s, fun z => ?_, fun _ l hl => q _ _ (pr_tup hl hA (r.cut lo hi))⟩)
    rw [r.length] at z
    rw [cut_all z] at q
    exact q _ _ (pr_val (by rw [← ex]; exact ha.tupR))
  | str z =>
    have e : (if z.length ≤ sizeLine then some (Op.val (.str (cutS z lo hi))) else none) = some op := e
    by_cases c : z.length ≤ sizeLine
    · rw [if_pos c] at e; cases e
      exact .inr ⟨z, ha.str, c, q _ _ (pr_val (.str _))⟩
    · rw [if_neg c] at e; cases e
  | _ => cases e
/-- xs[::-1] -/
def fRev : D → Option Op
  | .list ds => some (.fr (.list ds.reverse))
  | .tuple ds => some (.val (.tuple ds.reverse))
  | _ => none
@[simp] theorem fRev_list (ds : List D) : fRev (.list ds) = some (.fr (.list ds.reverse)) := rfl
@[simp] theorem fRev_tup (ds : List D) : fRev (.tuple ds) = some (.val (.tuple ds.reverse)) := rfl
def rRev (K : PySem.W.Frag) : V → Hp → VK → Prop := fun x H Q => ∃ a xs, x = .ref a ∧ ((SqL K H a xs ∧ ∀ p, H p = none → Q (.ref p) (upd H p (.lst xs.reverse))) ∨ (SqT K H a xs ∧ ∀ p, H p = none → Q (.ref p) (upd H p (.tup xs.reverse))))
theorem p_rev : P1 K (rRev K) fRev := by
  intro A H x a op Q hA ha e q
  cases a <;> try cases e
  · obtain ⟨p, xs, ex, s, r⟩ := ha.lst
    exact ⟨p, xs, ex, .inl ⟨s, fun l hl => q _ _ (pr_lst hl r.reverse)⟩⟩
  · obtain ⟨p, xs, ex, s, r⟩ := ha.tup
    exact ⟨p, xs, ex, .inr ⟨s, fun l hl => q _ _ (pr_tup hl hA r.reverse)⟩⟩
theorem qe_rev {X : Cx} {F : Fc} {e : Expr} {me : M Op} {k : Nat} {p1 p2 p3 pos : Pos} (he : QE X F e me) : QE X F (.Subscript e (.Slice none none (some (.UnaryOp .USub (.Constant (.int 1) k p1) p2)) p3) pos) (m1 fRev me) :=
  (pe_revA he).imp fun σ H Q h => lift1 p_rev h
end
end Vx
set_option maxHeartbeats 2000000
namespace Vx
open PySem PySem.Spec L2
section
variable {K : PySem.W.Frag} {A : Fo} {H : Hp}
theorem RBs.one {vs : List V} {d : D} (h : RBs K A H vs [d]) : ∃ v, vs = [v] ∧ RB K A H v d := by
  cases h with
  | cons r t => cases t; exact ⟨_, rfl, r⟩
theorem RBs.two {vs : List V} {d e : D} (h : RBs K A H vs [d, e]) : ∃ v u, vs = [v, u] ∧ RB K A H v d ∧ RB K A H u e := by
  cases h with
  | cons r t =>
    obtain ⟨u, e, q⟩ := t.one
    subst e
    exact ⟨_, _, rfl, r, q⟩
/-- one argument -/
def f1 (f : D → Option Op) : List D → Option Op
  | [d] => f d
  | _ => none
@[simp] theorem f1_one (f : D → Option Op) (d : D) : f1 f [d] = f d := rfl
theorem pn_1 {r : List V → Hp → VK → Prop} {f : D → Option Op} (h : P1 K (fun x H Q => r [x] H Q) f) : Pn K r (f1 f) := by
  intro A H xs as op Q hA hs e q
  match as, e, hs with
  | [d], e, hs =>
    obtain ⟨v, ev, r⟩ := hs.one
    subst ev
    exact h A H v d op Q hA r e q
def fAbs : D → Option Op
  | .int i => some (.val (.int (if i < 0 then -i else i)))
  | _ => none
theorem fAbs_int (i : Int) : fAbs (.int i) = some (.val (.int (if i < 0 then -i else i))) := rfl
theorem p_abs : Pn K (fun xs H Q => ∃ i, xs = [.int i] ∧ Q (.int (if i < 0 then -i else i)) H) (f1 fAbs) := pn_1 (by
  intro A H x a op Q hA ha e q
  cases a <;> try cases e
  exact ⟨_, by rw [ha.int], q _ _ (pr_val (.int _))⟩)
def fInt : D → Option Op
  | .int i => some (.val (.int i))
  | .bool k => some (.val (.int (if k then 1 else 0)))
  | _ => none
@[simp] theorem fInt_int (i : Int) : fInt (.int i) = some (.val (.int i)) := rfl
@[simp] theorem fInt_bool (i : Bool) : fInt (.bool i) = some (.val (.int (if i then 1 else 0))) := rfl
theorem p_int : Pn K (fun xs H Q => (∃ i, xs = [.int i] ∧ Q (.int i) H) ∨ ∃ k, xs = [.bl k] ∧ Q (.int (if k then 1 else 0)) H) (f1 fInt) := pn_1 (by
  intro A H x a op Q hA ha e q
  cases a <;> try cases e
  · exact .inr ⟨_, by rw [ha.bl], q _ _ (pr_val (.int _))⟩
  · exact .inl ⟨_, by rw [ha.int], q _ _ (pr_val (.int _))⟩)
def lenD : D → Option Nat
  | .list ds => some ds.length
  | .tuple ds => some ds.length
  | .str z => if z.length ≤ sizeLine then some z.length else none
  | .dict kvs => if plainK kvs = true then some kvs.length else none
  | _ => none
def fLen (d : D) : Option Op := (lenD d).map fun n => .val (.int (n : Nat))
def rLen (K : PySem.W.Frag) : List V → Hp → VK → Prop := fun xs H Q => ((∃ p ys, xs = [.ref p] ∧ (SqL K H p ys ∨ SqT K H p ys) ∧ Q (.int ys.length) H) ∨ (∃ z, xs = [.str z] ∧ z.length ≤ sizeLine ∧ Q (.int z.length) H)) ∨
  ∃ a kvs, xs = [V.ref a] ∧ H a = some (.dK kvs) ∧ Q (.int kvs.length) H
theorem c_len {X : Cx} : CallR X (.builtin "len") (rLen X.K) := CallR.or (CallR.or call_len_seq call_len_str) call_lenD
theorem RKs.length : ∀ {kvs : List (Key × V)} {ks : List (D × D)}, RKs K A H kvs ks → kvs.length = ks.length
  | [], [], _ => rfl
  | _ :: _, _ :: _, .cons _ t => congrArg (· + 1) (RKs.length t)
theorem p_len : Pn K (rLen K) (f1 fLen) := pn_1 (by
  intro A H x a op Q hA ha e q
  cases a with
  | list ds =>
    cases e
    obtain ⟨p, xs, ex, s, r⟩ := ha.lst
    exact .inl (.inl ⟨p, xs, by rw [ex], .inl s, by rw [r.length]; exact q _ _ (pr_val (.int _))⟩)
  | tuple ds =>
    cases e
    obtain ⟨p, xs, ex, s, r⟩ := ha.tup
    exact .inl (.inl ⟨p, xs, by rw [ex], .inr s, by rw [r.length]; exact q _ _ (pr_val (.int _))⟩)
  | dict ks =>
    have e : (if plainK ks = true then some ks.length else none).map (fun n => Op.val (.int (n : Nat))) = some op := e
    by_cases c : plainK ks = true
    · rw [if_pos c] at e; cases e
      obtain ⟨p, xs, ex, s, r⟩ := ha.dct c
      exact .inr ⟨p, xs, by rw [ex], s, by rw [r.length]; exact q _ _ (pr_val (.int _))⟩
    · rw [if_neg c] at e; cases e
  | str z =>
    have e : (if z.length ≤ sizeLine then some z.length else none).map (fun n => Op.val (.int (n : Nat))) = some op := e
    by_cases c : z.length ≤ sizeLine
    · rw [if_pos c] at e; cases e
      exact .inl (.inr ⟨z, by rw [ha.str], c, q _ _ (pr_val (.int _))⟩)
    · rw [if_neg c] at e; cases e
  | _ => cases e)
def intsD : List D → Option (List Int)
  | [] => some []
  | .int i :: ds => (intsD ds).map (i :: ·)
  | _ => none
@[simp] theorem intsD_map (ns : List Int) : intsD (ns.map .int) = some ns := by
  induction ns with
  | nil => rfl
  | cons i ns ih => simp [intsD, ih]
theorem intsD_eq : ∀ {ds : List D} {ns : List Int}, intsD ds = some ns → ds = ns.map .int
  | [], ns, e => by cases e; rfl
  | .int i :: ds, ns, e => by
    have e : (intsD ds).map (i :: ·) = some ns := e
    cases q : intsD ds with
    | none => rw [q] at e; cases e
    | some ms => rw [q] at e; cases e; rw [intsD_eq q]; rfl
  | .none :: _, _, e => by cases e
  | .bool _ :: _, _, e => by cases e
  | .str _ :: _, _, e => by cases e
  | .list _ :: _, _, e => by cases e
  | .tuple _ :: _, _, e => by cases e
  | .dict _ :: _, _, e => by cases e
def boolsD : List D → Option (List Bool)
  | [] => some []
  | .bool i :: ds => (boolsD ds).map (i :: ·)
  | _ => none
@[simp] theorem boolsD_map (ns : List Bool) : boolsD (ns.map .bool) = some ns := by
  induction ns with
  | nil => rfl
  | cons i ns ih => simp [boolsD, ih]
theorem boolsD_eq : ∀ {ds : List D} {ns : List Bool}, boolsD ds = some ns → ds = ns.map .bool
  | [], ns, e => by cases e; rfl
  | .bool i :: ds, ns, e => by
    have e : (boolsD ds).map (i :: ·) = some ns := e
    cases q : boolsD ds with
    | none => rw [q] at e; cases e
    | some ms => rw [q] at e; cases e; rw [boolsD_eq q]; rfl
  | .none :: _, _, e => by cases e
  | .int _ :: _, _, e => by cases e
  | .str _ :: _, _, e => by cases e
  | .list _ :: _, _, e => by cases e
  | .tuple _ :: _, _, e => by cases e
  | .dict _ :: _, _, e => by cases e
/-- a list of ints -/
def lInts : D → Option (List Int)
  | .list ds => intsD ds
  | _ => none
def lBools : D → Option (List Bool)
  | .list ds => boolsD ds
  | _ => none
@[simp] theorem lInts_list (ds : List D) : lInts (.list ds) = intsD ds := rfl
@[simp] theorem lBools_list (ds : List D) : lBools (.list ds) = boolsD ds := rfl
theorem RB.lInts {v : V} {d : D} {ns : List Int} (h : RB K A H v d) (e : Vx.lInts d = some ns) : ∃ a, v = .ref a ∧ SqL K H a (ns.map V.int) := by
  cases d <;> try cases e
  have e := intsD_eq e
  obtain ⟨a, xs, ex, s, r⟩ := h.lst
  rw [e] at r
  exact ⟨a, ex, by rw [← r.of_ints]; exact s⟩
theorem RB.lBools {v : V} {d : D} {ns : List Bool} (h : RB K A H v d) (e : Vx.lBools d = some ns) : ∃ a, v = .ref a ∧ SqL K H a (ns.map V.bl) := by
  cases d <;> try cases e
  have e := boolsD_eq e
  obtain ⟨a, xs, ex, s, r⟩ := h.lst
  rw [e] at r
  exact ⟨a, ex, by rw [← r.of_bools]; exact s⟩
def fAny (d : D) : Option Op := (lBools d).map fun bs => .val (.bool (bs.any id))
def fAll (d : D) : Option Op := (lBools d).map fun bs => .val (.bool (bs.all id))
def fSum (d : D) : Option Op := (lInts d).map fun bs => .val (.int bs.sum)
theorem p_any : Pn K (rAny K) (f1 fAny) := pn_1 (by
  intro A H x a op Q hA ha e q
  unfold fAny at e
  cases e1 : lBools a with
  | none => rw [e1] at e; cases e
  | some bs =>
    rw [e1] at e; cases e
    obtain ⟨p, ex, s⟩ := ha.lBools e1
    exact ⟨p, bs, by rw [ex], s, q _ _ (pr_val (.bl _))⟩)
theorem p_all : Pn K (rAll K) (f1 fAll) := pn_1 (by
  intro A H x a op Q hA ha e q
  unfold fAll at e
  cases e1 : lBools a with
  | none => rw [e1] at e; cases e
  | some bs =>
    rw [e1] at e; cases e
    obtain ⟨p, ex, s⟩ := ha.lBools e1
    exact ⟨p, bs, by rw [ex], s, q _ _ (pr_val (.bl _))⟩)
theorem p_sum : Pn K (rSum K) (f1 fSum) := pn_1 (by
  intro A H x a op Q hA ha e q
  unfold fSum at e
  cases e1 : lInts a with
  | none => rw [e1] at e; cases e
  | some bs =>
    rw [e1] at e; cases e
    obtain ⟨p, ex, s⟩ := ha.lInts e1
    exact ⟨p, bs, by rw [ex], s, q _ _ (pr_val (.int _))⟩)
/-- the greatest, the least -/
def mxI (m : Int) : List Int → Int
  | [] => m
  | n :: ns => mxI (if m < n then n else m) ns
def mnI (m : Int) : List Int → Int
  | [] => m
  | n :: ns => mnI (if n < m then n else m) ns
theorem mxI_le : ∀ (ns : List Int) (m : Int), m ≤ mxI m ns ∧ ∀ y ∈ ns, y ≤ mxI m ns
  | [], m => ⟨Int.le_refl m, fun y h => nomatch h⟩
  | n :: ns, m => by
    obtain ⟨h1, h2⟩ := mxI_le ns (if m < n then n else m)
    have k1 : m ≤ (if m < n then n else m) ∧ n ≤ (if m < n then n else m) := by split <;> omega
    refine ⟨?_, fun y h => ?_⟩
    · show m ≤ mxI (if m < n then n else m) ns
      exact Int.le_trans k1.1 h1
    · show y ≤ mxI (if m < n then n else m) ns
      rcases List.mem_cons.mp h with z | z
      · subst z; exact Int.le_trans k1.2 h1
      · exact h2 y z
theorem mxI_mem : ∀ (ns : List Int) (m : Int), mxI m ns = m ∨ mxI m ns ∈ ns
  | [], m => .inl rfl
  | n :: ns, m => by
    show mxI (if m < n then n else m) ns = m ∨ mxI (if m < n then n else m) ns ∈ n :: ns
    rcases mxI_mem ns (if m < n then n else m) with h | h
    · rw [h]; split
      · exact .inr List.mem_cons_self
      · exact .inl rfl
    · exact .inr (List.mem_cons_of_mem _ h)
theorem mnI_le : ∀ (ns : List Int) (m : Int), mnI m ns ≤ m ∧ ∀ y ∈ ns, mnI m ns ≤ y
  | [], m => ⟨Int.le_refl m, fun y h => nomatch h⟩
  | n :: ns, m => by
    obtain ⟨h1, h2⟩ := mnI_le ns (if n < m then n else m)
    have k1 : (if n < m then n else m) ≤ m ∧ (if n < m then n else m) ≤ n := by split <;> omega
    refine ⟨?_, fun y h => ?_⟩
    · show mnI (if n < m then n else m) ns ≤ m
      exact Int.le_trans h1 k1.1
    · show mnI (if n < m then n else m) ns ≤ y
      rcases List.mem_cons.mp h with z | z
      · subst z; exact Int.le_trans h1 k1.2
      · exact h2 y z
theorem mnI_mem : ∀ (ns : List Int) (m : Int), mnI m ns = m ∨ mnI m ns ∈ ns
  | [], m => .inl rfl
  | n :: ns, m => by
    show mnI (if n < m then n else m) ns = m ∨ mnI (if n < m then n else m) ns ∈ n :: ns
    rcases mnI_mem ns (if n < m then n else m) with h | h
    · rw [h]; split
      · exact .inr List.mem_cons_self
      · exact .inl rfl
    · exact .inr (List.mem_cons_of_mem _ h)
def mx1 : List Int → Option Op
  | n :: ns => some (.val (.int (mxI n ns)))
  | [] => none
def mn1 : List Int → Option Op
  | n :: ns => some (.val (.int (mnI n ns)))
  | [] => none
@[simp] theorem mx1_cons (n : Int) (ns : List Int) : mx1 (n :: ns) = some (.val (.int (mxI n ns))) := rfl
@[simp] theorem mn1_cons (n : Int) (ns : List Int) : mn1 (n :: ns) = some (.val (.int (mnI n ns))) := rfl
def fMax : List D → Option Op
  | [d] => (lInts d).bind mx1
  | [a, b] => f2I (fun i j => some (.int (if j > i then j else i))) a b
  | _ => none
def fMin : List D → Option Op
  | [d] => (lInts d).bind mn1
  | [a, b] => f2I (fun i j => some (.int (if j < i then j else i))) a b
  | _ => none
@[simp] theorem fMax_1 (d : D) : fMax [d] = (lInts d).bind mx1 := rfl
@[simp] theorem fMin_1 (d : D) : fMin [d] = (lInts d).bind mn1 := rfl
@[simp] theorem fMax_2 (i j : Int) : fMax [.int i, .int j] = some (.val (.int (if j > i then j else i))) := rfl
@[simp] theorem fMin_2 (i j : Int) : fMin [.int i, .int j] = some (.val (.int (if j < i then j else i))) := rfl
def rMaxA (K : PySem.W.Frag) : List V → Hp → VK → Prop := fun xs H Q => rMax K xs H Q ∨ ∃ i j, xs = [.int i, .int j] ∧ Q (.int (if j > i then j else i)) H
def rMinA (K : PySem.W.Frag) : List V → Hp → VK → Prop := fun xs H Q => rMin K xs H Q ∨ ∃ i j, xs = [.int i, .int j] ∧ Q (.int (if j < i then j else i)) H
theorem c_max {X : Cx} (hc : X.calm = true) : CallR X (.builtin "max") (rMaxA X.K) := CallR.or (cr_max hc) (call_max2 hc)
theorem c_min {X : Cx} (hc : X.calm = true) : CallR X (.builtin "min") (rMinA X.K) := CallR.or (cr_min hc) (call_min2 hc)
theorem p_max : Pn K (rMaxA K) fMax := by
  intro A H xs as op Q hA hs e q
  match as, hs with
  | [d], hs =>
    obtain ⟨v, ev, r⟩ := hs.one
    subst ev
    have e : (lInts d).bind mx1 = some op := e
    cases e1 : lInts d with
    | none => rw [e1] at e; cases e
    | some ns =>
      rw [e1] at e
      cases ns with
      | nil => cases e
      | cons n ns =>
        cases e
        obtain ⟨p, ex, s⟩ := r.lInts e1
        refine .inl ⟨p, n :: ns, by rw [ex], s, Nat.succ_pos _, fun m hm hy => ?_⟩
        have : m = mxI n ns := by
          obtain ⟨l1, l2⟩ := mxI_le ns n
          have a1 : mxI n ns ≤ m := by
            rcases mxI_mem ns n with z | z
            · rw [z]; exact hy n List.mem_cons_self
            · exact hy _ (List.mem_cons_of_mem _ z)
          have a2 : m ≤ mxI n ns := by
            rcases List.mem_cons.mp hm with z | z
            · rw [z]; exact l1
            · exact l2 m z
          omega
        rw [this]
        exact q _ _ (pr_val (.int _))
  | [d, d2], hs =>
    obtain ⟨v, u, ev, r1, r2⟩ := hs.two
    subst ev
    have e : f2I (fun i j => some (.int (if j > i then j else i))) d d2 = some op := e
    cases d with
    | int i =>
      cases d2 with
      | int j =>
        cases e
        exact .inr ⟨i, j, by rw [r1.int, r2.int], q _ _ (pr_val (.int _))⟩
      | _ => cases e
    | _ => cases e
  | [], hs => cases e
  | _ :: _ :: _ :: _, hs => cases e
theorem p_min : Pn K (rMinA K) fMin := by
  intro A H xs as op Q hA hs e q
  match as, hs with
  | [d], hs =>
    obtain ⟨v, ev, r⟩ := hs.one
    subst ev
    have e : (lInts d).bind mn1 = some op := e
    cases e1 : lInts d with
    | none => rw [e1] at e; cases e
    | some ns =>
      rw [e1] at e
      cases ns with
      | nil => cases e
      | cons n ns =>
        cases e
        obtain ⟨p, ex, s⟩ := r.lInts e1
        refine .inl ⟨p, n :: ns, by rw [ex], s, Nat.succ_pos _, fun m hm hy => ?_⟩
        have : m = mnI n ns := by
          obtain ⟨l1, l2⟩ := mnI_le ns n
          have a1 : m ≤ mnI n ns := by
            rcases mnI_mem ns n with z | z
            · rw [z]; exact hy n List.mem_cons_self
            · exact hy _ (List.mem_cons_of_mem _ z)
          have a2 : mnI n ns ≤ m := by
            rcases List.mem_cons.mp hm with z | z
            · rw [z]; exact l1
            · exact l2 m z
          omega
        rw [this]
        exact q _ _ (pr_val (.int _))
  | [d, d2], hs =>
    obtain ⟨v, u, ev, r1, r2⟩ := hs.two
    subst ev
    have e : f2I (fun i j => some (.int (if j < i then j else i))) d d2 = some op := e
    cases d with
    | int i =>
      cases d2 with
      | int j =>
        cases e
        exact .inr ⟨i, j, by rw [r1.int, r2.int], q _ _ (pr_val (.int _))⟩
      | _ => cases e
    | _ => cases e
  | [], hs => cases e
  | _ :: _ :: _ :: _, hs => cases e
def fTuple : D → Option Op
  | .list ds => some (.val (.tuple ds))
  | .tuple ds => some (.val (.tuple ds))
  | _ => none
def fList : D → Option Op
  | .list ds => some (.fr (.list ds))
  | .tuple ds => some (.fr (.list ds))
  | _ => none
@[simp] theorem fTuple_list (ds : List D) : fTuple (.list ds) = some (.val (.tuple ds)) := rfl
@[simp] theorem fTuple_tuple (ds : List D) : fTuple (.tuple ds) = some (.val (.tuple ds)) := rfl
@[simp] theorem fList_list (ds : List D) : fList (.list ds) = some (.fr (.list ds)) := rfl
@[simp] theorem fList_tuple (ds : List D) : fList (.tuple ds) = some (.fr (.list ds)) := rfl
theorem p_tuple : Pn K (fun xs H Q => ∃ p ys, xs = [.ref p] ∧ ((SqL K H p ys ∧ ∀ l, H l = none → Q (.ref l) (upd H l (.tup ys))) ∨ (SqT K H p ys ∧ Q (.ref p) H))) (f1 fTuple) := pn_1 (by
  intro A H x a op Q hA ha e q
  cases a with
  | list ds =>
    cases e
    obtain ⟨p, xs, ex, s, r⟩ := ha.lst
    exact ⟨p, xs, by rw [ex], .inl ⟨s, fun l hl => q _ _ (pr_tup hl hA r)⟩⟩
  | tuple ds =>
    cases e
    obtain ⟨p, xs, ex, s, r⟩ := ha.tup
    exact ⟨p, xs, by rw [ex], .inr ⟨s, q _ _ (pr_val (by rw [← ex]; exact ha.tupR))⟩⟩
  | _ => cases e)
theorem p_list : Pn K (fun xs H Q => ∃ p ys, xs = [.ref p] ∧ (SqL K H p ys ∨ SqT K H p ys) ∧ ∀ l, H l = none → Q (.ref l) (upd H l (.lst ys))) (f1 fList) := pn_1 (by
  intro A H x a op Q hA ha e q
  cases a with
  | list ds =>
    cases e
    obtain ⟨p, xs, ex, s, r⟩ := ha.lst
    exact ⟨p, xs, by rw [ex], .inl s, fun l hl => q _ _ (pr_lst hl r)⟩
  | tuple ds =>
    cases e
    obtain ⟨p, xs, ex, s, r⟩ := ha.tup
    exact ⟨p, xs, by rw [ex], .inr s, fun l hl => q _ _ (pr_lst hl r)⟩
  | _ => cases e)
def insI (m : Int) : List Int → List Int
  | [] => [m]
  | n :: ns => if m ≤ n then m :: n :: ns else n :: insI m ns
def sortI : List Int → List Int
  | [] => []
  | n :: ns => insI n (sortI ns)
theorem insI_perm (m : Int) : ∀ ns : List Int, (insI m ns).Perm (m :: ns)
  | [] => List.Perm.refl _
  | n :: ns => by
    unfold insI
    split
    · exact List.Perm.refl _
    · exact ((insI_perm m ns).cons n).trans (List.Perm.swap m n ns)
theorem sortI_perm : ∀ ns : List Int, (sortI ns).Perm ns
  | [] => List.Perm.refl _
  | n :: ns => (insI_perm n _).trans ((sortI_perm ns).cons n)
theorem insI_sorted (m : Int) : ∀ ns : List Int, ns.Pairwise (· ≤ ·) → (insI m ns).Pairwise (· ≤ ·)
  | [], _ => List.pairwise_singleton _ _
  | n :: ns, h => by
    obtain ⟨h1, h2⟩ := List.pairwise_cons.mp h
    unfold insI
    split
    · rename_i c
      refine List.pairwise_cons.mpr ⟨fun y hy => ?_, h⟩
      rcases List.mem_cons.mp hy with z | z
      · omega
      · have := h1 y z; omega
    · rename_i c
      refine List.pairwise_cons.mpr ⟨fun y hy => ?_, insI_sorted m ns h2⟩
      rcases List.mem_cons.mp ((insI_perm m ns).mem_iff.mp hy) with z | z
      · omega
      · exact h1 y z
theorem sortI_sorted : ∀ ns : List Int, (sortI ns).Pairwise (· ≤ ·)
  | [] => List.Pairwise.nil
  | n :: ns => insI_sorted n _ (sortI_sorted ns)
theorem sorted_uniq : ∀ {a b : List Int}, a.Perm b → a.Pairwise (· ≤ ·) → b.Pairwise (· ≤ ·) → a = b
  | [], b, p, _, _ => by
    have := p.length_eq
    cases b with
    | nil => rfl
    | cons _ _ => cases this
  | x :: a, [], p, _, _ => by
    have := p.length_eq
    cases this
  | x :: a, y :: b, p, h1, h2 => by
    obtain ⟨h1a, h1b⟩ := List.pairwise_cons.mp h1
    obtain ⟨h2a, h2b⟩ := List.pairwise_cons.mp h2
    have e : x = y := by
      have m1 : x ∈ y :: b := p.mem_iff.mp List.mem_cons_self
      have m2 : y ∈ x :: a := p.mem_iff.mpr List.mem_cons_self
      rcases List.mem_cons.mp m1 with z | z
      · exact z
      · rcases List.mem_cons.mp m2 with z2 | z2
        · exact z2.symm
        · have := h1a y z2
          have := h2a x z
          omega
    subst e
    rw [sorted_uniq ((List.perm_cons x).mp p) h1b h2b]
def fSorted (d : D) : Option Op := (lInts d).map fun ns => .fr (.list ((sortI ns).map .int))
theorem p_sorted : Pn K (rSortedI K) (f1 fSorted) := pn_1 (by
  intro A H x a op Q hA ha e q
  unfold fSorted at e
  cases e1 : lInts a with
  | none => rw [e1] at e; cases e
  | some ns =>
    rw [e1] at e; cases e
    obtain ⟨p, ex, s⟩ := ha.lInts e1
    refine ⟨p, ns, by rw [ex], s, fun ns' l hp hs hl => ?_⟩
    rw [sorted_uniq (hp.trans (sortI_perm ns).symm) hs (sortI_sorted ns)]
    exact q _ _ (pr_lst hl (RDs.ints _)))
end
end Vx
set_option maxHeartbeats 2000000
namespace Vx
open PySem PySem.Spec L2
def tyD : D → String
  | .none => "NoneType"
  | .bool _ => "bool"
  | .int _ => "int"
  | .str _ => "str"
  | .list _ => "list"
  | .tuple _ => "tuple"
  | .dict _ => "dict"
/-- no function, no error -/
def okT : D → Bool
  | .dict ks => plainK ks
  | _ => true
def fIsi (ts : List String) (d : D) : Option Op := if okT d = true then some (.val (.bool (ts.contains (tyD d)))) else none
def tysD : List String := ["NoneType", "bool", "int", "str", "list", "tuple", "dict"]
theorem tyD_mem (d : D) : tyD d ∈ tysD := by cases d <;> simp [tyD, tysD]
theorem RB.tyX {K : PySem.W.Frag} {A : Fo} {H : Hp} {v : V} {d : D} (h : RB K A H v d) (ok : okT d = true) : TyX K H v (.type (tyD d)) := by
  cases d with
  | none => rw [h.non]; exact .base .non
  | bool b => rw [h.bl]; exact .base (.bl b)
  | int i => rw [h.int]; exact .base (.int i)
  | str z => rw [h.str]; exact .base (.str z)
  | list ds =>
    obtain ⟨a, xs, ex, s, r⟩ := h.lst
    subst ex
    rcases s with (s | ⟨o, s⟩) | ⟨o, its, n, s, c, _⟩
    · exact .base (.lst s)
    · exact .base (.frz s)
    · exact .kList s c
  | tuple ds =>
    obtain ⟨a, xs, ex, s, r⟩ := h.tup
    subst ex
    rcases s with (s | ⟨o, s⟩) | ⟨o, its, n, s, c, _⟩
    · exact .base (.tup s)
    · exact .fTuple s
    · exact .kTuple s c
  | dict ds =>
    obtain ⟨a, xs, ex, s, r⟩ := h.dct ok
    subst ex
    exact .base (.dK s)
def rIsiA (T : String) (b : List String) : Bool := tysD.all fun t => kitB t T == some (b.contains t)
theorem qe_isi {X : Cx} {F : Fc} {e : Expr} {me : M Op} {y : Str} {T : String} {ts : List String} {p p2 pos : Pos} (ht : rIsiA T ts = true) (hg : Gl X "isinstance") (hm : X.mg "isinstance" = none) (hgy : Gl X y) (hmy : X.mg y = none) (hvy : bootBuiltins y = some (.type T)) (he : QE X F e me)
    (hv : bootBuiltins "isinstance" = some (.builtin "isinstance") := by rfl) (hny : y ≠ "__name__" := by decide) (hdy : (y == ("__debug__" : Str)) = false := by decide)
    (hs1 : starEach [e, .Name y p2] X.env = (false, eval e X.env) :: starEach [.Name y p2] X.env := by rfl) (hs2 : starEach [.Name y p2] X.env = (false, eval (.Name y p2) X.env) :: starEach [] X.env := by rfl)
    (hpl : (backTo pos (starEach [.Name y p2] X.env)).any (·.1) = false := by rfl) : QE X F (.Call (.Name "isinstance" p) [e, .Name y p2] [] pos) (m1 (fIsi ts) me) := by
  have a2 : PE X (.Name y p2) (tC (.ty T)) := pe_bltn hgy hmy hvy rfl hny hdy
  refine (pe_callB (r := rIsi X.K) call_isi hg hm hv (pa_cons he (pa_cons a2 pa_nil hs2) hs1) (by decide) (by decide) hs1 hpl).imp fun σ H Q h => ?_
  refine lift1 (r := fun x H Q => rIsi X.K [x, .ty T] H Q) ?_ h
  intro A H x a op Q hA ha e q
  have e : (if okT a = true then some (Op.val (.bool (ts.contains (tyD a)))) else none) = some op := e
  by_cases ok : okT a = true
  case neg => rw [if_neg ok] at e; cases e
  rw [if_pos ok] at e
  cases e
  have k := List.all_eq_true.mp ht (tyD a) (tyD_mem a)
  exact ⟨x, .ty T, _, _, _, rfl, .ty T, ha.tyX ok, kit_ty (eq_of_beq k), q _ _ (pr_val (.bl _))⟩
theorem isi_int : rIsiA "int" ["int", "bool"] = true := by decide +kernel
theorem isi_bool : rIsiA "bool" ["bool"] = true := by decide +kernel
theorem isi_str : rIsiA "str" ["str"] = true := by decide +kernel
theorem isi_list : rIsiA "list" ["list"] = true := by decide +kernel
theorem isi_tuple : rIsiA "tuple" ["tuple"] = true := by decide +kernel
theorem isi_dict : rIsiA "dict" ["dict"] = true := by decide +kernel
def lsS : Option Sl → Option (List D)
  | some (.ow (.list ds)) => some ds
  | some (.le (.list ds)) => some ds
  | _ => none
@[simp] theorem lsS_ow (ds : List D) : lsS (some (.ow (.list ds))) = some ds := rfl
@[simp] theorem lsS_le (ds : List D) : lsS (some (.le (.list ds))) = some ds := rfl
section
variable {K : PySem.W.Frag} {F : Fc} {T : Fo} {H : Hp} {σ : St} {ρ : Ev}
theorem lsS_own {s : Option Sl} {ds : List D} (h : lsS s = some ds) : OwnS s = true := by
  cases s with
  | none => cases h
  | some s => cases s <;> first | rfl | cases h
theorem lsS_putS {s : Option Sl} {ds : List D} (h : lsS s = some ds) (d : D) : ∃ s', putS d s = some s' := by
  cases s with
  | none => cases h
  | some s => cases s <;> first | exact ⟨_, rfl⟩ | cases h
theorem Rel.lsGet (R : Rel K F T H σ ρ) {i : Nat} {ds : List D} (h : lsS ρ[i]? = some ds) : ∃ a xs, σ[i]? = some (some (V.ref a)) ∧ H a = some (.lst xs) ∧ RDs K (Fb F T σ ρ) H xs ds := by
  cases q : ρ[i]? with
  | none => rw [q] at h; cases h
  | some s =>
    rw [q] at h
    cases s with
    | ow d =>
      obtain ⟨a, q1, q2, _⟩ := R.ow i d q
      cases d <;> try cases h
      obtain ⟨xs, q3, q4⟩ := q2
      exact ⟨a, xs, q1, q3, q4⟩
    | le d =>
      obtain ⟨a, _, q1, q2, _⟩ := R.le i d q
      cases d <;> try cases h
      obtain ⟨xs, q3, q4⟩ := q2
      exact ⟨a, xs, q1, q3, q4⟩
    | _ => cases h
/-- the slot's list is another now -/
theorem Rel.lsPut (R : Rel K F T H σ ρ) {i : Nat} {ds es : List D} (h : lsS ρ[i]? = some ds) {a : Addr} {xs ys : List V} (hv : σ[i]? = some (some (V.ref a))) (ha : H a = some (.lst xs)) (hy : RDs K (Fb F T σ ρ) H ys es) :
    ∃ ρ3, putA [i] [.list es] ρ = some ρ3 ∧ Rel K F T (upd H a (.lst ys)) σ ρ3 ∧ Ext σ ρ H σ ρ3 (upd H a (.lst ys)) ∧ (∀ b, OS σ ρ3 b → OS σ ρ b) ∧ Le (Fb F T σ ρ) H (Fb F T σ ρ3) (upd H a (.lst ys)) := by
  obtain ⟨s, hs⟩ := lsS_putS h (.list es)
  have e : putA [i] [.list es] ρ = some (ρ.set i s) := by
    show (putS (.list es) ρ[i]?).bind (fun s => putA [] [] (ρ.set i s)) = _
    rw [hs]; rfl
  have oa : OS σ ρ a := ⟨i, lsS_own h, hv⟩
  have l : Le (Fb F T σ ρ) H (Fb F T σ ρ) (upd H a (.lst ys)) := ⟨fun b o q _ n => by
    have nb : b ≠ a := fun z => n (.inr (.inr (by rw [z]; exact oa)))
    rw [upd_ne nb]; exact q, fun b z => .inl z, fun b q => by
    by_cases c : b = a
    · rw [c, upd_same]; exact fun z => nomatch z
    · rw [upd_ne c]; exact q⟩
  obtain ⟨r1, r2, r3⟩ := R.put (T' := T) (H' := upd H a (.lst ys)) (fun _ z => .inl z) (is := [i]) (ls := [a]) (outs := [.list es]) (List.nodup_cons.mpr (And.intro (fun z => nomatch z) List.nodup_nil)) (.cons hv .nil)
    ⟨fun b o q _ n => by
      have nb : b ≠ a := fun z => n (List.mem_singleton.mpr z)
      rw [upd_ne nb]; exact q, fun b q => by
      by_cases c : b = a
      · rw [c, upd_same]; exact fun z => nomatch z
      · rw [upd_ne c]; exact q, tabs_lst R.tabs ha⟩ (.cons ⟨ys, upd_same, RDs.mono l _ _ hy⟩ .nil) e
  refine ⟨_, e, r1, r2, r3, ?_⟩
  refine ⟨l.1, fun b z => ?_, l.dom⟩
  rcases z with z | z | z
  · exact .inl (.inl z)
  · exact .inl (.inr (.inl z))
  · exact .inl (.inr (.inr (r3 b z)))
end
/-- xs.append(e) -/
def meApp (i : Nat) (mk : M D) : M Op := fun ρ => if (lsS ρ[i]?).isSome = true then (mk ρ).bind fun d ρ1 => opt2 ρ1 ((lsS ρ1[i]?).bind fun ds => if ds.length < sizeLine then (putA [i] [.list (ds ++ [d])] ρ1).map fun ρ2 => (.val .none, ρ2) else none) else .no
where opt2 (ρ1 : Ev) : Option (Op × Ev) → Rs Op
  | some (x, ρ2) => .ok x ρ2
  | none => .no
/-- xs.extend(ys) -/
def meExt (i : Nat) (ma : M Op) : M Op := fun ρ => if (lsS ρ[i]?).isSome = true then (ma ρ).bind fun x ρ1 => optE ((lsS ρ1[i]?).bind fun ds => (rdL ρ1 x).bind fun es => if ds.length + es.length ≤ sizeLine then (putA [i] [.list (ds ++ es)] ρ1).map fun ρ2 => (Op.val .none, ρ2) else none) else .no
where rdL (ρ1 : Ev) : Op → Option (List D)
  | .fr (.list es) => some es
  | .sl j => lsS ρ1[j]?
  | _ => none
/-- xs.pop() -/
def mePop (i : Nat) : M Op := fun ρ => optE ((lsS ρ[i]?).bind fun ds => (ds[ds.length - 1]?).bind fun d => (putA [i] [.list ds.dropLast] ρ).map fun ρ2 => (Op.val d, ρ2))
def okIx (k : Int) : Bool := decide (-(2 ^ 63) ≤ k) && decide (k < 2 ^ 63)
/-- xs.pop(e) -/
def mePopAt (i : Nat) (ma : M Op) : M Op := fun ρ => if (lsS ρ[i]?).isSome = true then (ma ρ).bind fun x ρ1 => optE ((rd ρ1 x).bind fun y => (isI y).bind fun k => (lsS ρ1[i]?).bind fun ds => if okIx k = true then (seqIndex? k ds.length).bind fun j => (ds[j]?).bind fun d => (putA [i] [.list (ds.eraseIdx j)] ρ1).map fun ρ2 => (Op.val d, ρ2) else none) else .no
section
variable {K : PySem.W.Frag} {F : Fc} {T T1 : Fo} {H H1 : Hp} {σ : St} {ρ ρ1 : Ev} {Q : VK}
theorem ls_ty (R : Rel K F T H σ ρ) {i : Nat} (h : (lsS ρ[i]?).isSome = true) : ∃ v, σ[i]? = some (some v) ∧ tyV K "list" v H := by
  cases q : lsS ρ[i]? with
  | none => rw [q] at h; cases h
  | some ds =>
    obtain ⟨a, xs, q1, q2, q3⟩ := R.lsGet q
    exact ⟨_, q1, .inl ⟨rfl, xs, SqL.of q2⟩⟩
theorem ls_fin (x1 : Ext σ ρ H σ ρ1 H1) (R1 : Rel K F T1 H1 σ ρ1) (t : ∀ b, T b → T1 b) {i : Nat} {ds es : List D} (h : lsS ρ1[i]? = some ds) {a : Addr} {xs ys : List V} (hv : σ[i]? = some (some (V.ref a))) (ha : H1 a = some (.lst xs)) (hy : RDs K (Fb F T1 σ ρ1) H1 ys es) {d : D} {v : V} (hd : RD K (Fb F T1 σ ρ1) H1 v d)
    (g : GE K F T H σ ρ Q (optE ((putA [i] [.list es] ρ1).map fun ρ2 => (Op.val d, ρ2)))) : Q v (upd H1 a (.lst ys)) := by
  obtain ⟨ρ3, e, r1, r2, r3, l⟩ := R1.lsPut h hv ha hy
  rw [e] at g
  have tt : ∀ b, TTf T v (.val d) b → T1 b := fun b z => z.elim (t b) fun ⟨_, e, _⟩ => (nomatch e)
  refine g v _ ⟨r1.less tt, x1.trans r2, ?_, fun _ _ e => (nomatch e)⟩
  exact RD.mono (Le.less fun b z => z.elim .inl fun z => z.elim (fun z => .inr (.inl (tt b z))) fun z => .inr (.inr z)) _ _ (RD.mono l _ _ hd)
end
section
variable {X : Cx} {F : Fc} {e : Expr} {me : M Op} {i : Nat} {x : Str} {p ap pos : Pos}
theorem qe_app (hN : X.N[i]? = some x) (hv : Vis X.env.scope x) (he : QE X F e me)
    (hd : (x == ("__debug__" : Str)) = false := by decide) (hcd : (x == ("__classdict__" : Str)) = false := by decide)
    (hbase : attributeBase (.Name x p) "append" X.env (eval (.Name x p) X.env) = eval (.Name x p) X.env := by rfl)
    (hfew : ((backTo pos (starEach [e] X.env)).all (fun x => !x.1) && (backToKw pos (keywordEach [] X.env)).all (fun x => x.1.isSome) && decide ([e].length + ([] : List Keyword).length + (if ([] : List Keyword).isEmpty then 0 else 1) < 30)) = true := by rfl)
    (hline : (ap.endLine == pos.line) = true := by rfl) (hs : starEach [e] X.env = (false, eval e X.env) :: starEach [] X.env := by rfl) (hplain : (backTo pos (starEach [] X.env)).any (·.1) = false := by rfl) :
    QE X F (.Call (.Attribute (.Name x p) "append" ap) [e] [] pos) (meApp i (mK me)) := by
  refine (pe_bm PySem.F.plainAttrs_list PySem.F.slot_list_append PySem.F.type_list_append mt_append (pe_var hN hv hd hcd) (pa_cons (liftK_ he) pa_nil hs) hbase hfew hline hs hplain).imp fun σ H Q ⟨T, ρ, R, h⟩ => ?_
  unfold meApp at h
  by_cases c : (lsS ρ[i]?).isSome = true
  · rw [if_pos c] at h
    obtain ⟨v0, hv0, ty0⟩ := ls_ty R c
    refine ⟨v0, hv0, ty0, T, ρ, R, ?_⟩
    cases e1 : mK me ρ with
    | no => rw [e1] at h; exact h.elim
    | er z ρ' => rw [e1] at h; exact h
    | ok d ρ1 =>
      rw [e1, Rs.bind_ok] at h
      intro v H1 R1 x1 q1
      cases e2 : lsS ρ1[i]? with
      | none => rw [e2] at h; exact h.elim
      | some ds =>
        rw [e2] at h
        have h : GE X.K F T H σ ρ Q (meApp.opt2 ρ1 (if ds.length < sizeLine then (putA [i] [.list (ds ++ [d])] ρ1).map fun ρ2 => (Op.val .none, ρ2) else none)) := h
        by_cases c2 : ds.length < sizeLine
        · rw [if_pos c2] at h
          obtain ⟨a, xs, g1, g2, g3⟩ := R1.lsGet e2
          rw [hv0] at g1; cases g1
          refine ⟨a, xs, v, rfl, rfl, g2, by rw [g3.length]; exact c2, ?_⟩
          refine ls_fin x1 R1 (fun _ z => z) e2 hv0 g2 (g3.append (.cons q1 .nil)) (d := .none) .non ?_
          cases q : putA [i] [.list (ds ++ [d])] ρ1 with
          | none => rw [q] at h; exact h
          | some ρ2 => rw [q] at h; exact h
        · rw [if_neg c2] at h; exact h.elim
  · rw [if_neg c] at h; exact h.elim
theorem qe_ext (hN : X.N[i]? = some x) (hv : Vis X.env.scope x) (he : QE X F e me)
    (hd : (x == ("__debug__" : Str)) = false := by decide) (hcd : (x == ("__classdict__" : Str)) = false := by decide)
    (hbase : attributeBase (.Name x p) "extend" X.env (eval (.Name x p) X.env) = eval (.Name x p) X.env := by rfl)
    (hfew : ((backTo pos (starEach [e] X.env)).all (fun x => !x.1) && (backToKw pos (keywordEach [] X.env)).all (fun x => x.1.isSome) && decide ([e].length + ([] : List Keyword).length + (if ([] : List Keyword).isEmpty then 0 else 1) < 30)) = true := by rfl)
    (hline : (ap.endLine == pos.line) = true := by rfl) (hs : starEach [e] X.env = (false, eval e X.env) :: starEach [] X.env := by rfl) (hplain : (backTo pos (starEach [] X.env)).any (·.1) = false := by rfl) :
    QE X F (.Call (.Attribute (.Name x p) "extend" ap) [e] [] pos) (meExt i me) := by
  refine (pe_bm PySem.F.plainAttrs_list PySem.F.slot_list_extend PySem.F.type_list_extend mt_extend (pe_var hN hv hd hcd) (pa_cons he pa_nil hs) hbase hfew hline hs hplain).imp fun σ H Q ⟨T, ρ, R, h⟩ => ?_
  unfold meExt at h
  by_cases c : (lsS ρ[i]?).isSome = true
  · rw [if_pos c] at h
    obtain ⟨v0, hv0, ty0⟩ := ls_ty R c
    refine ⟨v0, hv0, ty0, T, ρ, R, ?_⟩
    cases e1 : me ρ with
    | no => rw [e1] at h; exact h.elim
    | er z ρ' => rw [e1] at h; exact h
    | ok y ρ1 =>
      rw [e1, Rs.bind_ok] at h
      intro v H1 p1
      cases e2 : lsS ρ1[i]? with
      | none => rw [e2] at h; exact h.elim
      | some ds =>
        rw [e2] at h
        have h : GE X.K F T H σ ρ Q (optE ((meExt.rdL ρ1 y).bind fun es => if ds.length + es.length ≤ sizeLine then (putA [i] [.list (ds ++ es)] ρ1).map fun ρ2 => (Op.val .none, ρ2) else none)) := h
        cases e3 : meExt.rdL ρ1 y with
        | none => rw [e3] at h; exact h.elim
        | some es =>
          rw [e3] at h
          have h : GE X.K F T H σ ρ Q (optE (if ds.length + es.length ≤ sizeLine then (putA [i] [.list (ds ++ es)] ρ1).map fun ρ2 => (Op.val .none, ρ2) else none)) := h
          by_cases c2 : ds.length + es.length ≤ sizeLine
          · rw [if_pos c2] at h
            obtain ⟨a, xs, g1, g2, g3⟩ := p1.rel.lsGet e2
            rw [hv0] at g1; cases g1
            have : ∃ b zs, v = .ref b ∧ H1 b = some (.lst zs) ∧ RDs X.K (Fb F (TTf T v y) σ ρ1) H1 zs es := by
              cases y with
              | val d => cases e3
              | fr d =>
                cases d <;> try cases e3
                obtain ⟨b, k1, _, ⟨zs, k3, k4⟩, _⟩ := p1.val
                exact ⟨b, zs, k1, k3, k4⟩
              | sl j =>
                obtain ⟨b, zs, k1, k2, k3⟩ := p1.rel.lsGet (show lsS ρ1[j]? = some es from e3)
                have hv1 : σ[j]? = some (some v) := p1.val
                rw [hv1] at k1; cases k1
                exact ⟨b, zs, rfl, k2, k3⟩
            obtain ⟨b, zs, k1, k2, k3⟩ := this
            refine ⟨a, b, xs, zs, rfl, by rw [k1], g2, k2, by rw [g3.length, k3.length]; exact c2, ?_⟩
            exact ls_fin p1.ext p1.rel (fun _ z => .inl z) e2 hv0 g2 (g3.append k3) (d := .none) .non h
          · rw [if_neg c2] at h; exact h.elim
  · rw [if_neg c] at h; exact h.elim
theorem qe_popAt (hN : X.N[i]? = some x) (hv : Vis X.env.scope x) (he : QE X F e me)
    (hd : (x == ("__debug__" : Str)) = false := by decide) (hcd : (x == ("__classdict__" : Str)) = false := by decide)
    (hbase : attributeBase (.Name x p) "pop" X.env (eval (.Name x p) X.env) = eval (.Name x p) X.env := by rfl)
    (hfew : ((backTo pos (starEach [e] X.env)).all (fun x => !x.1) && (backToKw pos (keywordEach [] X.env)).all (fun x => x.1.isSome) && decide ([e].length + ([] : List Keyword).length + (if ([] : List Keyword).isEmpty then 0 else 1) < 30)) = true := by rfl)
    (hline : (ap.endLine == pos.line) = true := by rfl) (hs : starEach [e] X.env = (false, eval e X.env) :: starEach [] X.env := by rfl) (hplain : (backTo pos (starEach [] X.env)).any (·.1) = false := by rfl) :
    QE X F (.Call (.Attribute (.Name x p) "pop" ap) [e] [] pos) (mePopAt i me) := by
  refine (pe_bm PySem.F.plainAttrs_list PySem.F.slot_list_pop PySem.F.type_list_pop mt_popAt (pe_var hN hv hd hcd) (pa_cons he pa_nil hs) hbase hfew hline hs hplain).imp fun σ H Q ⟨T, ρ, R, h⟩ => ?_
  unfold mePopAt at h
  by_cases c : (lsS ρ[i]?).isSome = true
  · rw [if_pos c] at h
    obtain ⟨v0, hv0, ty0⟩ := ls_ty R c
    refine ⟨v0, hv0, ty0, T, ρ, R, ?_⟩
    cases e1 : me ρ with
    | no => rw [e1] at h; exact h.elim
    | er z ρ' => rw [e1] at h; exact h
    | ok y ρ1 =>
      rw [e1, Rs.bind_ok] at h
      intro v H1 p1
      cases e3 : rd ρ1 y with
      | none => rw [e3] at h; exact h.elim
      | some d =>
        rw [e3] at h
        cases d with
        | int k =>
          have h : GE X.K F T H σ ρ Q (optE ((lsS ρ1[i]?).bind fun ds => if okIx k = true then (seqIndex? k ds.length).bind fun j => (ds[j]?).bind fun d => (putA [i] [.list (ds.eraseIdx j)] ρ1).map fun ρ2 => (Op.val d, ρ2) else none)) := h
          cases e2 : lsS ρ1[i]? with
          | none => rw [e2] at h; exact h.elim
          | some ds =>
            rw [e2] at h
            have h : GE X.K F T H σ ρ Q (optE (if okIx k = true then (seqIndex? k ds.length).bind fun j => (ds[j]?).bind fun d => (putA [i] [.list (ds.eraseIdx j)] ρ1).map fun ρ2 => (Op.val d, ρ2) else none)) := h
            by_cases c2 : okIx k = true
            · rw [if_pos c2] at h
              cases e4 : seqIndex? k ds.length with
              | none => rw [e4] at h; exact h.elim
              | some j =>
                rw [e4] at h
                have h : GE X.K F T H σ ρ Q (optE ((ds[j]?).bind fun d => (putA [i] [.list (ds.eraseIdx j)] ρ1).map fun ρ2 => (Op.val d, ρ2))) := h
                cases e5 : ds[j]? with
                | none => rw [e5] at h; exact h.elim
                | some d =>
                  rw [e5] at h
                  obtain ⟨a, xs, g1, g2, g3⟩ := p1.rel.lsGet e2
                  rw [hv0] at g1; cases g1
                  obtain ⟨u, u1, u2⟩ := g3.get e5
                  simp only [okIx, Bool.and_eq_true, decide_eq_true_eq] at c2
                  refine ⟨a, xs, k, j, u, rfl, by rw [(p1.val.rb p1.rel e3).int], g2, c2.1, c2.2, by rw [g3.length]; exact e4, u1, ?_⟩
                  exact ls_fin p1.ext p1.rel (fun _ z => .inl z) e2 hv0 g2 (g3.eraseIdx j) u2 h
            · rw [if_neg c2] at h; exact h.elim
        | _ => exact h.elim
  · rw [if_neg c] at h; exact h.elim
theorem qe_pop (hN : X.N[i]? = some x) (hv : Vis X.env.scope x)
    (hd : (x == ("__debug__" : Str)) = false := by decide) (hcd : (x == ("__classdict__" : Str)) = false := by decide)
    (hbase : attributeBase (.Name x p) "pop" X.env (eval (.Name x p) X.env) = eval (.Name x p) X.env := by rfl) (hline : (ap.endLine == pos.line) = true := by rfl) :
    QE X F (.Call (.Attribute (.Name x p) "pop" ap) [] [] pos) (mePop i) := by
  refine (pe_bm0 PySem.F.plainAttrs_list PySem.F.slot_list_pop PySem.F.type_list_pop mt_pop (pe_var hN hv hd hcd) hbase hline).imp fun σ H Q ⟨T, ρ, R, h⟩ => ?_
  unfold mePop at h
  cases e2 : lsS ρ[i]? with
  | none => rw [e2] at h; exact h.elim
  | some ds =>
    rw [e2] at h
    obtain ⟨v0, hv0, ty0⟩ := ls_ty R (i := i) (by rw [e2]; rfl)
    refine ⟨v0, hv0, ty0, ?_⟩
    have h : GE X.K F T H σ ρ Q (optE ((ds[ds.length - 1]?).bind fun d => (putA [i] [.list ds.dropLast] ρ).map fun ρ2 => (Op.val d, ρ2))) := h
    cases e5 : ds[ds.length - 1]? with
    | none => rw [e5] at h; exact h.elim
    | some d =>
      rw [e5] at h
      obtain ⟨a, xs, g1, g2, g3⟩ := R.lsGet e2
      rw [hv0] at g1; cases g1
      obtain ⟨u, u1, u2⟩ := g3.get e5
      refine ⟨a, xs, u, rfl, rfl, g2, by rw [g3.length]; exact u1, ?_⟩
      exact ls_fin (Ext.refl ..) R (fun _ z => z) e2 hv0 g2 g3.dropLast u2 h
end
end Vx
set_option maxHeartbeats 2000000
namespace Vx
open PySem PySem.Spec L2
def hasS : Option Sl → Bool
  | some (.ow _) => true
  | some (.le _) => true
  | _ => false
def sSetIx (i : Nat) (mk : M D) (mi : M Op) : M Fl := fun ρ => (mk ρ).bind fun d ρ1 => if (lsS ρ1[i]?).isSome = true then (mi ρ1).bind fun y ρ2 => oNx ((rd ρ2 y).bind fun yd => (isI yd).bind fun k => (lsS ρ2[i]?).bind fun ds => (ixN ds.length k).bind fun j => putA [i] [.list (ds.set j d)] ρ2) else .no
section
variable {X : Cx} {F : Fc} {e ie : Expr} {me mi : M Op} {i : Nat} {x : Str} {p pos pos' : Pos}
theorem qs_setIx (hN : X.N[i]? = some x) (hv : Vis X.env.scope x) (he : QE X F e me) (hi : QE X F ie mi)
    (hd : (x == ("__debug__" : Str)) = false := by decide) (hcd : (x == ("__classdict__" : Str)) = false := by decide)
    (hs : swapsWithSole [.Subscript (.Name x p) ie pos'] e pos.line X.env = pure false := by rfl) (hw : swappedStores [.Subscript (.Name x p) ie pos'] e X.env = pure none := by rfl)
    (h1 : (assignEach [.Subscript (.Name x p) ie pos'] X.env).map (·.2) = [assign (.Subscript (.Name x p) ie pos') X.env] := by rfl)
    (hA : ∀ v, assign (.Subscript (.Name x p) ie pos') X.env v = (do
      let ov ← holding [v] (eval (.Name x p) X.env)
      let iv ← holding [v, ov] (eval ie X.env)
      standAt pos'
      holding [v, ov, iv] (setItem ov iv v)
      release [v, ov, iv] []) := by intro _; rfl) : QS X F (.Assign [.Subscript (.Name x p) ie pos'] e pos) (sSetIx i (mK me) mi) := by
  refine (ps_asg (liftK_ he) (pg_sub (pe_var (i := i) hN hv hd hcd) hi set_list hA) hs hw h1).imp fun D σ H ⟨ρ, R, h⟩ => ⟨noT, ρ, R, ?_⟩
  unfold sSetIx at h
  cases e1 : mK me ρ with
  | no => rw [e1] at h; exact h.elim
  | er z ρ' => rw [e1] at h; exact ErS.toP h
  | ok d ρ1 =>
    rw [e1, Rs.bind_ok] at h
    intro v H1 R1 x1 r1
    by_cases c : (lsS ρ1[i]?).isSome = true
    · rw [if_pos c] at h
      obtain ⟨v0, hv0, ty0⟩ := ls_ty R1 c
      refine ⟨v0, hv0, noT, ρ1, R1, ?_⟩
      cases e2 : mi ρ1 with
      | no => rw [e2] at h; exact h.elim
      | er z ρ' => rw [e2] at h; exact ErP.back (ErS.toP (show ErS X.K F H σ ρ z ρ' from h)) x1 fun _ z => z
      | ok y ρ2 =>
        rw [e2, Rs.bind_ok] at h
        intro u H2 p2
        cases e3 : rd ρ2 y with
        | none => rw [e3] at h; exact h.elim
        | some yd =>
          rw [e3] at h
          cases yd with
          | int k =>
            have h : GS X.K F H σ ρ D (oNx ((lsS ρ2[i]?).bind fun ds => (ixN ds.length k).bind fun j => putA [i] [.list (ds.set j d)] ρ2)) := h
            cases e4 : lsS ρ2[i]? with
            | none => rw [e4] at h; exact h.elim
            | some ds =>
              rw [e4] at h
              have h : GS X.K F H σ ρ D (oNx ((ixN ds.length k).bind fun j => putA [i] [.list (ds.set j d)] ρ2)) := h
              cases e5 : ixN ds.length k with
              | none => rw [e5] at h; exact h.elim
              | some j =>
                rw [e5] at h
                have h : GS X.K F H σ ρ D (oNx (putA [i] [.list (ds.set j d)] ρ2)) := h
                obtain ⟨a, xs, g1, g2, g3⟩ := p2.rel.lsGet e4
                rw [hv0] at g1; cases g1
                refine ⟨a, xs, k, j, rfl, (p2.val.rb p2.rel e3).int, g2, by rw [g3.length]; exact e5, ?_⟩
                have rv : RD X.K (Fb F (TTf noT u y) σ ρ2) H2 v d := RD.mono (p2.ext.fb p2.tt) _ _ r1
                obtain ⟨ρ3, q1, q2, q3, q4, q5⟩ := p2.rel.lsPut e4 hv0 g2 (g3.set rv j)
                rw [q1] at h
                exact h _ _ (q2.less fun _ z => z.elim) ((x1.trans p2.ext).trans q3)
          | _ => exact h.elim
    · rw [if_neg c] at h; exact h.elim
end
def noSl : Op → Bool
  | .sl _ => false
  | _ => true
def sPar (i j : Nat) (ma mb : M Op) : M Fl := fun ρ => (ma ρ).bind fun x ρ1 => (mb ρ1).bind fun y ρ2 => if (noSl x && noSl y) = true then oNx ((stO i ρ2 x).bind fun ρ3 => stO j ρ3 y) else .no
section
variable {K : PySem.W.Frag} {F : Fc} {T T' : Fo} {H H' : Hp} {σ : St} {ρ ρ' : Ev}
theorem Rel.stOp (R : Rel K F T' H σ ρ) {x : Op} {v : V} {i : Nat} {ρ2 : Ev} (h : VOk K F T' H σ ρ v x) (hx : noSl x = true) (ht : ∀ b, T' b ↔ T b ∨ ∃ d, x = .fr d ∧ v = .ref b) (nT : ∀ d a, x = .fr d → v = .ref a → ¬ T a) (e : stO i ρ x = some ρ2) :
    Rel K F T H (σ.set i (some v)) ρ2 ∧ (∀ b, OS (σ.set i (some v)) ρ2 b → OS σ ρ b ∨ ∃ d, x = .fr d ∧ v = .ref b) ∧ ∀ b, Fb F T (σ.set i (some v)) ρ2 b → Fb F T' σ ρ b := by
  have fb : (∀ b, OS (σ.set i (some v)) ρ2 b → OS σ ρ b ∨ ∃ d, x = .fr d ∧ v = .ref b) → ∀ b, Fb F T (σ.set i (some v)) ρ2 b → Fb F T' σ ρ b := fun os b z => by
    rcases z with z | z | z
    · exact .inl z
    · exact .inr (.inl ((ht b).mpr (.inl z)))
    · rcases os b z with z | z
      · exact .inr (.inr z)
      · exact .inr (.inl ((ht b).mpr (.inr z)))
  cases x with
  | sl j => cases hx
  | val d =>
    have e : (if free ρ[i]? then some (ρ.set i (.cl d)) else none) = some ρ2 := e
    by_cases c : free ρ[i]? = true
    · rw [if_pos c] at e; cases e
      have R1 : Rel K F T H σ ρ := R.less fun b z => (ht b).mpr (.inl z)
      obtain ⟨r1, r2⟩ := R1.setCl c (RD.mono (Le.less fun b z => z.elim .inl fun z => z.elim (fun z => .inr (.inl ((ht b).mpr (.inl z)))) fun z => .inr (.inr z)) _ _ h)
      have os : ∀ b, OS (σ.set i (some v)) (ρ.set i (.cl d)) b → OS σ ρ b ∨ ∃ d', Op.val d = .fr d' ∧ v = .ref b := fun b z => .inl (os_set (s := .cl d) rfl (free_len c) z).1
      exact ⟨r1, os, fb os⟩
    · rw [if_neg c] at e; cases e
  | fr d =>
    have e : (if free ρ[i]? then some (ρ.set i (.ow d)) else none) = some ρ2 := e
    by_cases c : free ρ[i]? = true
    · rw [if_pos c] at e; cases e
      obtain ⟨a, ev, ta, q, nb, h0⟩ := h
      have ht' : ∀ b, T' b ↔ T b ∨ b = a := fun b => ⟨fun z => ((ht b).mp z).imp id fun ⟨_, _, z⟩ => by rw [ev] at z; cases z; rfl, fun z => (ht b).mpr (z.imp id fun z => ⟨d, rfl, by rw [z]; exact ev⟩)⟩
      obtain ⟨r1, r2⟩ := R.setOw c ev ht' (nT d a rfl ev) q nb h0
      have os : ∀ b, OS (σ.set i (some v)) (ρ.set i (.ow d)) b → OS σ ρ b ∨ ∃ d', Op.fr d = .fr d' ∧ v = .ref b := fun b z => (r2 b z).imp id fun z => ⟨d, rfl, by rw [z]; exact ev⟩
      exact ⟨r1, os, fb os⟩
    · rw [if_neg c] at e; cases e
theorem VOk.stOp {x y : Op} {v w : V} {i : Nat} {ρ2 : Ev} (h : VOk K F T' H σ ρ w y) (hy : noSl y = true) (fb : ∀ b, Fb F T (σ.set i (some v)) ρ2 b → Fb F T' σ ρ b) (tw : ∀ d a, y = .fr d → w = .ref a → T a) : VOk K F T H (σ.set i (some v)) ρ2 w y := by
  cases y with
  | sl j => cases hy
  | val d => exact RD.mono (Le.less fb) _ _ h
  | fr d =>
    obtain ⟨a, ev, ta, q, nb, h0⟩ := h
    exact ⟨a, ev, tw d a rfl ev, q.mono (Le.less fb) fun _ z => z, nb, h0⟩
end
section
variable {X : Cx} {F : Fc} {a b : Expr} {ma mb : M Op} {i j : Nat} {x y : Str} {px py pt pos : Pos} {kt : Nat} {k2 : Nat} {pt2 : Pos}
theorem qs_par (hc : X.calm = true) (hN : X.N.Nodup) (hi : X.N[i]? = some x) (hj : X.N[j]? = some y) (hij : i ≠ j) (hx : X.env.scope.names.lookup x = some .local) (hy : X.env.scope.names.lookup y = some .local) (ha : QE X F a ma) (hb : QE X F b mb)
    (hw : swappedStores [.Tuple [.Name x px, .Name y py] kt pt] (.Tuple [a, b] k2 pt2) X.env = pure (some [x, y]))
    (hs : swapsWithSole [.Tuple [.Name x px, .Name y py] kt pt] (.Tuple [a, b] k2 pt2) pos.line X.env = pure false := by rfl)
    (s1 : starEach [a, b] X.env = (false, eval a X.env) :: starEach [b] X.env := by rfl) (s2 : starEach [b] X.env = (false, eval b X.env) :: starEach [] X.env := by rfl) :
    QS X F (.Assign [.Tuple [.Name x px, .Name y py] kt pt] (.Tuple [a, b] k2 pt2) pos) (sPar i j ma mb) := by
  refine (ps_par hc hN hi hj hij hx hy (pa_cons ha (pa_cons hb pa_nil s2) s1) hw hs).imp fun D σ H ⟨ρ, R, h⟩ => ⟨noT, ρ, R, ?_⟩
  unfold sPar at h
  cases e1 : ma ρ with
  | no => rw [e1] at h; exact h.elim
  | er z ρ' => rw [e1] at h; exact ErS.toP h
  | ok x1 ρ1 =>
    rw [e1, Rs.bind_ok] at h
    intro v H1 p1
    refine ⟨_, ρ1, p1.rel, ?_⟩
    cases e2 : mb ρ1 with
    | no => rw [e2] at h; exact h.elim
    | er z ρ' => rw [e2] at h; exact ErP.back (ErS.toP (show ErS X.K F H σ ρ z ρ' from h)) p1.ext fun _ z => z.elim
    | ok y1 ρ2 =>
      rw [e2, Rs.bind_ok] at h
      intro w H2 p2
      by_cases c : (noSl x1 && noSl y1) = true
      · rw [if_pos c] at h
        obtain ⟨c1, c2⟩ := Bool.and_eq_true_iff.mp c
        refine ⟨v, w, rfl, ?_⟩
        cases e3 : stO i ρ2 x1 with
        | none => rw [e3] at h; exact h.elim
        | some ρ3 =>
          rw [e3] at h
          have h : GS X.K F H σ ρ D (oNx (stO j ρ3 y1)) := h
          cases e4 : stO j ρ3 y1 with
          | none => rw [e4] at h; exact h.elim
          | some ρ4 =>
            rw [e4] at h
            have vx : VOk X.K F (TTf (TTf noT v x1) w y1) H2 σ ρ2 v x1 := p1.val.ext p1.rel p2.ext (fun _ z => .inl z) p2.tt
            have exd : ∀ d a, x1 = .fr d → v = .ref a → H1 a ≠ none := fun d a q1 q2 => p1.rel.tdom a (.inr (.inr ⟨d, q1, q2⟩))
            obtain ⟨r1, o1, f1⟩ := p2.rel.stOp (T := TTf noT w y1) (i := i) vx c1 (fun b => ⟨fun z => z.elim (fun z => z.elim (fun z => z.elim) .inr) fun z => .inl (.inr z), fun z => z.elim (fun z => z.elim (fun z => z.elim) .inr) fun z => .inl (.inr z)⟩)
              (fun d a q1 q2 z => z.elim (fun z => z.elim) fun ⟨d2, q3, q4⟩ => exd d a q1 q2 (p2.new d2 a q3 q4)) e3
            have vy : VOk X.K F (TTf noT w y1) H2 (σ.set i (some v)) ρ3 w y1 := p2.val.stOp (x := x1) c2 f1 fun d a q1 q2 => .inr ⟨d, q1, q2⟩
            obtain ⟨r2, o2, f2⟩ := r1.stOp (T := noT) (i := j) vy c2 (fun b => Iff.rfl) (fun _ _ _ _ z => z) e4
            refine h _ H2 r2 ⟨(p1.ext.trans p2.ext).kept, fun b z => ?_, (p1.ext.trans p2.ext).dom⟩
            have nH : ∀ b, H1 b = none → H b = none := fun b z => by
              cases q : H b with
              | none => rfl
              | some o => exact absurd z (p1.ext.dom b (by rw [q]; exact fun z => nomatch z))
            rcases o2 b z with z | ⟨d, q1, q2⟩
            · rcases o1 b z with z | ⟨d, q1, q2⟩
              · exact (p1.ext.trans p2.ext).os b z
              · exact .inr (p1.new d b q1 q2)
            · exact .inr (nH b (p2.new d b q1 q2))
      · rw [if_neg c] at h; exact h.elim
end
def m2F (f : D → D → Option Op) (ma mb : M Op) : M Op := fun ρ => (ma ρ).bind fun x ρ1 => (mb ρ1).bind fun y ρ2 => opt ρ2 (frO x |>.bind fun a => (rd ρ2 y).bind fun b => f a b)
where frO : Op → Option D
  | .fr d => some d
  | _ => none
def P2F (K : PySem.W.Frag) (r : R2) (f : D → D → Option Op) : Prop := ∀ (A : Fo) (H : Hp) x y a b op (Q : VK), (∀ b, A b → H b ≠ none) → OB K A H x a → RB K A H y b → f a b = some op → (∀ v H', PR K A H H' v op → Q v H') → r (.ref x) y H Q
theorem lift2F {K : PySem.W.Frag} {F : Fc} {ma mb : M Op} {σ : St} {H : Hp} {Q : VK} {r : R2} {f : D → D → Option Op} (hf : P2F K r f) (h : liftE K F (m2F f ma mb) σ H Q) : tOp r (liftE K F ma) (liftE K F mb) σ H Q := by
  obtain ⟨T, ρ, R, h⟩ := h
  refine ⟨T, ρ, R, ?_⟩
  unfold m2F at h
  cases e : ma ρ with
  | no => rw [e] at h; exact h.elim
  | er x ρ' => rw [e] at h; exact h
  | ok x ρ1 =>
    rw [e, Rs.bind_ok] at h
    intro v H1 p
    refine ⟨TTf T v x, ρ1, p.rel, ?_⟩
    cases eb : mb ρ1 with
    | no => rw [eb] at h; exact h.elim
    | er z ρ' =>
      rw [eb] at h
      exact ErP.back (show ErP K F T H σ ρ z ρ' from h) p.ext fun _ z => .inl z
    | ok y ρ2 =>
      rw [eb, Rs.bind_ok] at h
      intro u H2 p2
      have vx : VOk K F (TTf (TTf T v x) u y) H2 σ ρ2 v x := p.val.ext p.rel p2.ext (fun _ z => .inl z) p2.tt
      cases x with
      | fr a =>
        have h : GE K F T H σ ρ Q (opt ρ2 ((rd ρ2 y).bind fun b => f a b)) := h
        cases e2 : rd ρ2 y with
        | none => rw [e2] at h; exact h.elim
        | some b =>
          rw [e2] at h
          have h : GE K F T H σ ρ Q (opt ρ2 (f a b)) := h
          cases e3 : f a b with
          | none => rw [e3] at h; exact h.elim
          | some op =>
            rw [e3] at h
            obtain ⟨x0, ev, _, ob, _⟩ := vx
            subst ev
            exact hf _ H2 x0 u a b op Q (fun _ z => p2.rel.fbd z) ob (p2.val.rb p2.rel e2) e3 fun v' H' q => h v' H' (fin_ p2.rel (p.ext.trans p2.ext) (fun _ z => .inl (.inl z)) q)
      | _ => exact h.elim
def fRep : D → D → Option Op
  | .list ds, .int k => if (okIx k && decide (ds.length * k.toNat ≤ sizeLine)) = true then some (.fr (.list (List.replicate k.toNat ds).flatten)) else none
  | _, _ => none
theorem p_rep {K : PySem.W.Frag} : P2F K rRep fRep := by
  intro A H x y a b op Q hA ha hb e q
  cases a <;> try cases e
  cases b <;> try cases e
  rename_i ds k
  have e : (if (okIx k && decide (ds.length * k.toNat ≤ sizeLine)) = true then some (Op.fr (.list (List.replicate k.toNat ds).flatten)) else none) = some op := e
  by_cases c : (okIx k && decide (ds.length * k.toNat ≤ sizeLine)) = true
  · rw [if_pos c] at e; cases e
    simp only [okIx, Bool.and_eq_true, decide_eq_true_eq] at c
    obtain ⟨xs, h1, h2⟩ := ha
    exact ⟨x, k, xs, rfl, hb.int, h1, c.1.1, c.1.2, by rw [h2.length]; exact c.2, fun p hp => q _ _ (pr_lst hp (h2.rep _))⟩
  · rw [if_neg c] at e; cases e
theorem qe_rep {X : Cx} {F : Fc} {a b : Expr} {ma mb : M Op} {pos : Pos} (ha : QE X F a ma) (hb : QE X F b mb) : QE X F (.BinOp a .Mult b pos) (m2F fRep ma mb) := (pe_op op_rep ha hb).imp fun _ _ _ h => lift2F p_rep h
def mRg (ma mb : M Op) : M Op := fun ρ => (ma ρ).bind fun x ρ1 => (mb ρ1).bind fun y ρ2 => opt ρ2 ((rd ρ2 x).bind fun a => (rd ρ2 y).bind fun b => (isI a).bind fun i => (isI b).bind fun j => if (okRg i && okRg j) = true then some (Op.fr (.list (rngD i (j - i).toNat))) else none)
where okRg (i : Int) : Bool := decide (0 ≤ i) && decide (i ≤ 16777216)
theorem rgV_rngD {K : PySem.W.Frag} {A : Fo} {H : Hp} (a b : Int) : RDs K A H (rgV a b) (rngD a (b - a).toNat) := by
  unfold rgV rngD
  have : ∀ l : List Nat, RDs K A H (l.map fun i => V.int (a + (i : Nat))) (l.map fun (i : Nat) => PyData.int (a + i)) := fun l => by
    induction l with
    | nil => exact .nil
    | cons n l ih => exact .cons (.int _) ih
  exact this _
section
variable {X : Cx} {F : Fc} {a b : Expr} {ma mb : M Op} {p p2 pos pos2 : Pos}
theorem qe_listRg (hc : X.calm = true) (hg : Gl X "list") (hm : X.mg "list" = none) (hg2 : Gl X "range") (hm2 : X.mg "range" = none) (ha : QE X F a ma) (hb : QE X F b mb)
    (na : starEach [.Call (.Name "range" p2) [a, b] [] pos2] X.env = (false, eval (.Call (.Name "range" p2) [a, b] [] pos2) X.env) :: starEach [] X.env := by rfl)
    (n1 : starEach [a, b] X.env = (false, eval a X.env) :: starEach [b] X.env := by rfl) (n2 : starEach [b] X.env = (false, eval b X.env) :: starEach [] X.env := by rfl) (hp : (backTo pos2 (starEach [b] X.env)).any (·.1) = false := by rfl) :
    QE X F (.Call (.Name "list" p) [.Call (.Name "range" p2) [a, b] [] pos2] [] pos) (mRg ma mb) := by
  refine (pe_listRg hc hg hm (prg_2 hg2 hm2 ha hb n1 n2 hp) na).imp fun σ H Q ⟨T, ρ, R, h⟩ => ⟨T, ρ, R, ?_⟩
  unfold mRg at h
  cases e : ma ρ with
  | no => rw [e] at h; exact h.elim
  | er x ρ' => rw [e] at h; exact h
  | ok x ρ1 =>
    rw [e, Rs.bind_ok] at h
    intro v H1 p
    refine ⟨TTf T v x, ρ1, p.rel, ?_⟩
    cases eb : mb ρ1 with
    | no => rw [eb] at h; exact h.elim
    | er z ρ' =>
      rw [eb] at h
      exact ErP.back (show ErP X.K F T H σ ρ z ρ' from h) p.ext fun _ z => .inl z
    | ok y ρ2 =>
      rw [eb, Rs.bind_ok] at h
      intro u H2 p2
      have vx : VOk X.K F (TTf (TTf T v x) u y) H2 σ ρ2 v x := p.val.ext p.rel p2.ext (fun _ z => .inl z) p2.tt
      cases e1 : rd ρ2 x with
      | none => rw [e1] at h; exact h.elim
      | some da =>
        rw [e1] at h
        cases e2 : rd ρ2 y with
        | none =>
          rw [e2] at h
          cases da <;> exact h.elim
        | some db =>
          rw [e2] at h
          cases da with
          | int i =>
            cases db with
            | int j =>
              have h : GE X.K F T H σ ρ Q (opt ρ2 (if (mRg.okRg i && mRg.okRg j) = true then some (Op.fr (.list (rngD i (j - i).toNat))) else none)) := h
              by_cases c : (mRg.okRg i && mRg.okRg j) = true
              · rw [if_pos c] at h
                simp only [mRg.okRg, Bool.and_eq_true, decide_eq_true_eq] at c
                refine ⟨i, j, (vx.rb p2.rel e1).int, (p2.val.rb p2.rel e2).int, RgOk.of_le c.1.1 c.2.2 c.1.2 c.2.1, fun q hq => ?_⟩
                exact h _ _ (fin_ p2.rel (p.ext.trans p2.ext) (fun _ z => .inl (.inl z)) (pr_lst hq (rgV_rngD i j)))
              · rw [if_neg c] at h; exact h.elim
            | _ => exact h.elim
          | _ => exact h.elim
end
end Vx
set_option maxHeartbeats 2000000
namespace Vx
open PySem PySem.Spec L2
def kG (kf : D → Option D) (d : D) : D := (kf d).getD .none
def mapO (kf : D → Option D) : List D → Option (List D)
  | [] => some []
  | d :: ds => (kf d).bind fun k => (mapO kf ds).bind fun ks => some (k :: ks)
def tup1 : D → Bool
  | .tuple (_ :: _) => true
  | _ => false
def noTN : D → Bool
  | .none => false
  | .tuple _ => false
  | _ => true
def okKs (kz : List D) : Bool := (kz.all fun d => kz.all fun e => PySem.W.alike d e) && (kz.all tup1 || kz.all noTN) && kz.all fun d => decide (d.depth ≤ 60)
/-- what sorted walks -/
def itK : D → Option (List D)
  | .list ds => some ds
  | .tuple ds => some ds
  | .dict ks => if plainK ks = true then some (ks.map (·.1)) else none
  | _ => none
def fSrtK (kf : D → Option D) (d : D) : Option Op := (itK d).bind fun ds => (mapO kf ds).bind fun kz => if (okKs kz && decide (ds.length ≤ sizeLine)) = true then some (.fr (.list (ds.mergeSort (PySem.W.dataLe false (kG kf))))) else none
theorem mapO_eq {kf : D → Option D} : ∀ {ds kz : List D}, mapO kf ds = some kz → kz = ds.map (kG kf) ∧ ∀ d ∈ ds, kf d = some (kG kf d)
  | [], kz, e => by cases e; exact ⟨rfl, fun d h => nomatch h⟩
  | d :: ds, kz, e => by
    have e : (kf d).bind (fun k => (mapO kf ds).bind fun ks => some (k :: ks)) = some kz := e
    cases e1 : kf d with
    | none => rw [e1] at e; cases e
    | some k =>
      rw [e1] at e
      have e : (mapO kf ds).bind (fun ks => some (k :: ks)) = some kz := e
      cases e2 : mapO kf ds with
      | none => rw [e2] at e; cases e
      | some ks =>
        rw [e2] at e; cases e
        obtain ⟨h1, h2⟩ := mapO_eq e2
        have hk : kG kf d = k := by unfold kG; rw [e1]; rfl
        refine ⟨by rw [List.map_cons, hk, h1], fun x hx => ?_⟩
        rcases List.mem_cons.mp hx with z | z
        · subst z; rw [hk]; exact e1
        · exact h2 x z
theorem okKs_ok {kz : List D} (h : okKs kz = true) : PySem.W.AllAlike kz ∧ PySem.W.Sortable kz ∧ ∀ d ∈ kz, d.depth ≤ 60 := by
  unfold okKs at h
  simp only [Bool.and_eq_true, Bool.or_eq_true, List.all_eq_true, decide_eq_true_eq] at h
  refine ⟨fun d hd e he => h.1.1 d hd e he, h.1.2.imp (fun h d hd => ?_) fun h d hd => ?_, h.2⟩
  · have := h d hd
    match d, this with
    | .tuple (x :: r), _ => exact ⟨x, r, rfl⟩
  · have := h d hd
    cases d <;> first
      | (cases this; done)
      | (constructor
         · intro z; cases z
         · intro _ z; cases z)
section
variable (X : Cx)
def KeyTurn (f : Value) (kf : D → Option D) (H1 : Hp) (s1 : Shared) : Prop := ∀ (A : Fo) (h : Heap) (tk : Nat) (x : V) (v : Value) (d kd : D), (∀ b o, s1.heap.get? b = some o → h.get? b = some o) → RD X.K A H1 x d → RelV x v → kf d = some kd →
  wpAny (model X.prog X.w) X.A.in1.in1 (call f [v]) (PySem.W.KeyPure kd { s1 with heap := h, toks := tk }) (fun _ _ => False) { s1 with heap := h, toks := tk }
def IsKeyV (f : Value) : Prop := ∀ x : Addr, Builtin.«list.sort» ⟨[.ref x], [(Str.ofString "key", f)]⟩ = PyProof.Rows.ksk_tree x f false
structure KeyE (tb : List (Addr × Str)) (ke : Expr) (kf : D → Option D) : Prop where
  run : ∀ (pins : List (Addr × Obj)) (s : Shared) (σ : St) (H : Hp) (Q : Value → Shared → Prop) (E : Value → Shared → Prop), Inv X pins σ H s → LamX.Tabs tb H → (∀ f s1 H1, Inv X pins σ H1 s1 → LamX.ExtN H H1 → (∀ b, H b ≠ none → H1 b ≠ none) → LamX.Tabs tb H1 → IsKeyV f → KeyTurn X f kf H1 s1 → Q f s1) →
    wpAny (model X.prog X.w) X.A (eval ke X.env) Q E s
end
section
variable {X : Cx} {pins : List (Addr × Obj)} {σ : St} {H : Hp} {s : Shared} {A : Fo}
/-- v (as it lies) stands for d -/
def RV (X : Cx) (A : Fo) (H : Hp) (v : Value) (d : D) : Prop := ∃ x, RelV x v ∧ RD X.K A H x d
theorem each_of : ∀ {xs : List V} {us : List Value} {ds : List D}, Vals xs us → RDs X.K A H xs ds → PySem.W.EachIs (RV X A H) us ds
  | _, _, _, .nil, .nil => .nil
  | _, _, _, .cons r t, .cons h q => .cons ⟨_, r, h⟩ (each_of t q)
theorem each_to : ∀ {us : List Value} {ds : List D}, PySem.W.EachIs (RV X A H) us ds → ∃ xs, Vals xs us ∧ RDs X.K A H xs ds
  | _, _, .nil => ⟨[], .nil, .nil⟩
  | _, _, .cons ⟨x, r, h⟩ t => by
    obtain ⟨xs, h1, h2⟩ := each_to t
    exact ⟨x :: xs, .cons r h1, .cons h h2⟩
/-- the core: what is walked is gathered, then sorted -/
theorem srt_core (I : Inv X pins σ H s) {a : Addr} {f : Value} {ds : List D} {kf : D → Option D} {Q : VK} (hu : X.A.units + 64 < cLine) (hf : IsKeyV f) (turn : KeyTurn X f kf H s) (kz : List D) (ek : mapO kf ds = some kz) (ok : okKs kz = true) (hz : ds.length ≤ sizeLine)
    (hcol : ∀ (R : List Value → Shared → Prop), (∀ (h' : Heap) (tk : Nat) (us : List Value) (xs : List V), (∀ b o, s.heap.get? b = some o → h'.get? b = some o) → Vals xs us → RDs X.K A H xs ds → R us { s with heap := h', toks := tk }) → wpAny (model X.prog X.w) X.A.in1 (collect (.ref a)) R X.xe s)
    (q : ∀ xs p, RDs X.K A H xs (ds.mergeSort (PySem.W.dataLe false (kG kf))) → H p = none → Q (.ref p) (upd H p (.lst xs))) :
    wpAny (model X.prog X.w) X.A (call (.builtin "sorted") [.ref a] [(Str.ofString "key", f)]) (EP X pins σ Q) X.xe s := by
  obtain ⟨ekz, kall⟩ := mapO_eq ek
  obtain ⟨hal, hsk, hdp⟩ := okKs_ok ok
  refine PyProof.Rows.call_function_entry_kw PyProof.Rows.kind_sorted PyProof.Rows.plain_sorted PyProof.Rows.entry_sorted (PyProof.Rows.ksk_s1 _ _) ?_
  unfold Builtin.«sorted»
  refine wpAny_bind (m := checkCount "sorted" 1 1 _) (wpAny_pure ?_)
  refine wpAny_bind (hcol _ fun h' tk us xs hk r rd => ?_)
  have e := each_of r rd
  have hul : us.length = ds.length := e.length
  refine wpAny_bind (PySem.wpAny_newList ?_ (by rw [hul]; exact hz))
  have hoL : (h'.push (PyProof.Rows.seqObj "list" us.toArray 0)).get? h'.objs.size = some (PyProof.Rows.seqObj "list" us.toArray 0) := Heap.get?_push_size _ rfl
  show wpAny _ _ _ _ _ { s with heap := h'.push (PyProof.Rows.seqObj "list" us.toArray 0), toks := tk }
  have old : ∀ {g : Heap}, PySem.W.KeepsBut h'.objs.size (h'.push (PyProof.Rows.seqObj "list" us.toArray 0)) g → ∀ b o, s.heap.get? b = some o → g.get? b = some o := fun {g} kp b o eb => by
    have e1 := hk b o eb
    exact kp b o (Nat.ne_of_lt (Heap.lt_size e1)) (Heap.get?_push_of_some _ e1)
  refine wpAny_bind (wpAny_holding (PyProof.Rows.wpAny_call_entry_kw PyProof.Rows.slot_list_sort ⟨_, hoL, rfl⟩ PyProof.Rows.entry_list_sort ?_ (PyProof.Rows.ksk_l1 _ _)))
  rw [hf]
  subst ekz
  refine PySem.W.keyH_tree (kz := ds.map (kG kf)) (s := { s with heap := h'.push (PyProof.Rows.seqObj "list" us.toArray 0), toks := tk }) hoL (by rw [List.length_map]; exact hul.symm) (by rw [hul]; exact hz) hal hsk (fun d hd => ?_)
    (PySem.W.keyH_turns (s := { s with heap := h'.push (PyProof.Rows.seqObj "list" us.toArray 0), toks := tk }) e fun v d ⟨x, rx, hx⟩ hd h2 tk2 kp => turn A h2 tk2 x v d _ (old kp) hx rx (kall d hd)) fun h3 tk3 out c kp hD ko => ?_
  · have := hdp d hd
    show X.A.units + 1 + 1 + d.depth < cLine
    omega
  · refine ⟨_, rfl, ?_⟩
    have eo := PySem.W.keyedOut_each (kG kf) ko e
    obtain ⟨ys, v1, v2⟩ := each_to eo
    have I1 : Inv X pins σ H { s with heap := h', toks := tk } := I.kept hk
    have old1 : ∀ b o, h'.get? b = some o → h3.get? b = some o := fun b o eb => kp b o (Nat.ne_of_lt (Heap.lt_size eb)) (Heap.get?_push_of_some _ eb)
    have hyl : ys.length = ds.length := by rw [v2.length, List.length_mergeSort]
    refine wpAny_pure ⟨_, rfl, .ref h'.objs.size, upd H h'.objs.size (.lst ys), I1.laid (t' := tk3) old1 (Nat.le_refl _) (show ObjOk X.prog X.w _ _ _ (.lst ys) from ⟨by rw [hyl]; exact hz, out, c, v1, hD⟩), rfl, q ys _ v2 (I1.hok.fresh (Nat.le_refl _))⟩
theorem RKs.keys {K : PySem.W.Frag} : ∀ {kvs : List (Key × V)} {ks : List (D × D)}, RKs K A H kvs ks → RDs K A H (kvs.map fun kv => kV kv.1) (ks.map (·.1))
  | [], [], _ => .nil
  | (.inl i, _) :: _, _ :: _, .cons _ t => .cons (.int i) (RKs.keys t)
  | (.inr z, _) :: _, _ :: _, .cons _ t => .cons (.str z) (RKs.keys t)
/-- what sorted gathers -/
theorem srt_col (I : Inv X pins σ H s) (hc : X.calm = true) {x : V} {v : Value} {d : D} {ds : List D} (rx : RelV x v) (h : RB X.K A H x d) (e : itK d = some ds) (hz : ds.length ≤ sizeLine) : ∃ a, v = .ref a ∧ ∀ (R : List Value → Shared → Prop),
    (∀ (h' : Heap) (tk : Nat) (us : List Value) (xs : List V), (∀ b o, s.heap.get? b = some o → h'.get? b = some o) → Vals xs us → RDs X.K A H xs ds → R us { s with heap := h', toks := tk }) → wpAny (model X.prog X.w) X.A.in1 (collect (.ref a)) R X.xe s := by
  cases d with
  | list ds' =>
    cases e
    obtain ⟨a, xs, ex, sq, r⟩ := h.lst
    subst ex; cases rx
    refine ⟨a, rfl, fun R hR => ?_⟩
    obtain ⟨its, rv, pl, hz2⟩ := I.list sq
    obtain ⟨o, ho, hc, n, hd⟩ := pl.isList
    refine PySem.wpAny_collect_seq a (.inl rfl) ho hc hd (fun h' hk => ?_) (by rw [List.size_toArray, ← rv.length]; exact hz2)
    have := hR h' s.toks its xs hk rv r
    rwa [show its.toArray.toList = its by simp]
  | tuple ds' =>
    cases e
    obtain ⟨a, xs, ex, sq, r⟩ := h.tup
    subst ex; cases rx
    refine ⟨a, rfl, fun R hR => ?_⟩
    obtain ⟨its, rv, ⟨o, ho, hc, n, hd⟩, hz2⟩ := I.tuple sq
    refine PySem.wpAny_collect_seq a (.inr rfl) ho hc hd (fun h' hk => ?_) (by rw [List.size_toArray, ← rv.length]; exact hz2)
    have := hR h' s.toks its xs hk rv r
    rwa [show its.toArray.toList = its by simp]
  | dict ks =>
    have e : (if plainK ks = true then some (ks.map (·.1)) else none) = some ds := e
    have c : plainK ks = true := by
      by_cases c : plainK ks = true
      · exact c
      · rw [if_neg c] at e; cases e
    rw [if_pos c] at e
    cases e
    obtain ⟨a, kvs, ex, sq, r⟩ := h.dct c
    subst ex; cases rx
    refine ⟨a, rfl, fun R hR => ?_⟩
    obtain ⟨z, lo, vs, rel, dd⟩ := dk_rd I.hok (.inl sq)
    obtain ⟨ep, hat⟩ := dd.dictAt
    have hkl : kvs.length = vs.length := by
      have := congrArg List.length rel.keys
      rwa [List.length_map, List.length_map] at this
    refine PySem.W.kdu_collect (A := X.A.in1) (PySem.W.kdl_dict (knd := mixKind X.prog X.w) (kvs := vs) (ep := ep) lo) (I.ok.hd hc) hat (by rw [← hkl]; exact z) fun h' tk acc hk hacc => ?_
    refine hR h' tk acc.toList (kvs.map fun kv => kV kv.1) hk ?_ ?_
    · have ek : (kvs.map fun kv => kV kv.1) = vs.map fun p => kV p.1 := by
        have e := congrArg (List.map kV) rel.keys
        rw [List.map_map, List.map_map] at e
        exact e
      rw [ek]
      exact keys_at (by rw [Array.length_toList]; exact hacc.1) fun j v e => hacc.2 j v (by rw [← Array.getElem?_toList]; exact e)
    · exact RKs.keys r
  | _ => cases e
end
theorem nTb_ne {o : HO} (t : nTb o = true) (ps : Array Value) : o ≠ .tbl ps := fun z => by rw [z] at t; cases t
theorem qe_sortK {X : Cx} {F : Fc} {e ke : Expr} {me : M Op} {kf : D → Option D} {p pos kp : Pos} (hc : X.calm = true) (hu : X.A.units + 64 < cLine) (hg : Gl X "sorted") (hm : X.mg "sorted" = none) (he : QE X F e me) (hk : KeyE X F.tb ke kf)
    (hv : bootBuiltins "sorted" = some (.builtin "sorted") := by rfl)
    (h1 : backTo pos (starEach [e] X.env) = (false, eval e X.env) :: backTo pos (starEach [] X.env) := by rfl) (hpl : (backTo pos (starEach [e] X.env)).any (·.1) = false := by rfl)
    (hall : (backToKw pos (keywordEach [⟨some "key", ke, kp⟩] X.env)).all (·.1.isSome) = true := by rfl) (hnone : (backToKw pos (keywordEach [⟨some "key", ke, kp⟩] X.env)).any (·.1.isNone) = false := by rfl)
    (hks : (backToKw pos (keywordEach [⟨some "key", ke, kp⟩] X.env)).filterMap (·.1) = [Str.ofString "key"] := by rfl)
    (hs1 : starEach [e] X.env = (false, eval e X.env) :: starEach [] X.env := by rfl) :
    QE X F (.Call (.Name "sorted" p) [e] [⟨some "key", ke, kp⟩] pos) (m1 (fSrtK kf) me) := by
  refine ⟨fun pins s σ H Q I ⟨T, ρ, R, h⟩ => ?_⟩
  refine wpAny_Call_Name_kw (ld_blt I hg hm hv ?_ (by decide) (by decide))
  unfold m1 at h
  have hpa : PA X [e] (tCons (liftE X.K F me) tNil) := pa_cons he pa_nil hs1
  refine PyProof.Rows.callWith_kw (thn (hpa.run pos pins s σ H (fun vs H1 => ∃ x, vs = [x] ∧ ∃ op ρ1, me ρ = .ok op ρ1 ∧ Post X.K F T H σ ρ op ρ1 x H1) I ⟨T, ρ, R, ?_⟩) fun us s1 ⟨vs, H1, I1, r1, x, evs, op, ρ1, e1, p1⟩ => ?_) h1 hpl hall hnone
  · cases e1 : me ρ with
    | no => rw [e1] at h; exact h.elim
    | er z ρ' => rw [e1] at h; exact h
    | ok op ρ1 => exact fun v H1 p => ⟨v, rfl, op, ρ1, rfl, p⟩
  · subst evs
    obtain ⟨u, eu, rx⟩ := vals1 r1
    subst eu
    rw [e1] at h
    have h : GE X.K F T H σ ρ Q (opt ρ1 ((rd ρ1 op).bind (fSrtK kf))) := h
    cases e2 : rd ρ1 op with
    | none => rw [e2] at h; exact h.elim
    | some d =>
      rw [e2] at h
      have h : GE X.K F T H σ ρ Q (opt ρ1 ((itK d).bind fun ds => (mapO kf ds).bind fun kz => if (okKs kz && decide (ds.length ≤ sizeLine)) = true then some (Op.fr (.list (ds.mergeSort (PySem.W.dataLe false (kG kf))))) else none)) := h
      cases e3 : itK d with
      | none => rw [e3] at h; exact h.elim
      | some ds =>
        rw [e3] at h
        have h : GE X.K F T H σ ρ Q (opt ρ1 ((mapO kf ds).bind fun kz => if (okKs kz && decide (ds.length ≤ sizeLine)) = true then some (Op.fr (.list (ds.mergeSort (PySem.W.dataLe false (kG kf))))) else none)) := h
        cases e4 : mapO kf ds with
        | none => rw [e4] at h; exact h.elim
        | some kz =>
          rw [e4] at h
          have h : GE X.K F T H σ ρ Q (opt ρ1 (if (okKs kz && decide (ds.length ≤ sizeLine)) = true then some (Op.fr (.list (ds.mergeSort (PySem.W.dataLe false (kG kf))))) else none)) := h
          by_cases c : (okKs kz && decide (ds.length ≤ sizeLine)) = true
          · rw [if_pos c] at h
            obtain ⟨c1, c2⟩ := Bool.and_eq_true_iff.mp c
            have c2 := of_decide_eq_true c2
            show wpAny _ _ (evalAll [do let v ← eval ke X.env; standAt pos; pure v]) _ _ s1
            refine wpAny_evalAll_cons (wpAny_bind (hk.run pins s1 σ H1 _ _ I1 p1.rel.tabs fun f s2 H2 I2 ex dm tb2 kv kt => wpAny_bind (wpAny_standAt (wpAny_pure ?_))))
            refine wpAny_evalAll_nil ?_
            rw [hks]
            -- the relation behind the key's making
            have ext2 : Ext σ ρ1 H1 σ ρ1 H2 := ⟨fun b o q t n => ex b o q (nTb_ne t), fun _ z => .inl z, dm⟩
            have R2 : Rel X.K F (TTf T x op) H2 σ ρ1 := by
              refine p1.rel.to (ext2.fb fun _ z => .inl z) (fun b ob o q => ?_) (fun b ob => (p1.rel.os ob).2.1) (fun b q => dm b (p1.rel.tdom b q)) (fun b o _ t _ q => ex b o q (nTb_ne t)) dm fun _ => tb2
              obtain ⟨i, g1, g2⟩ := ob
              obtain ⟨d', z | z⟩ := ownS_cases g1
              · obtain ⟨a, k1, k2, _⟩ := p1.rel.ow i d' z
                rw [g2] at k1; cases k1
                exact ex b o q fun ps z => by
                  cases d' <;> first | exact k2.elim | (obtain ⟨_, k3, _⟩ := k2; rw [q] at k3; cases k3; cases z)
              · obtain ⟨a, _, k1, k2, _⟩ := p1.rel.le i d' z
                rw [g2] at k1; cases k1
                exact ex b o q fun ps z => by
                  cases d' <;> first | exact k2.elim | (obtain ⟨_, k3, _⟩ := k2; rw [q] at k3; cases k3; cases z)
            have vx : VOk X.K F (TTf T x op) H2 σ ρ1 x op := p1.val.ext p1.rel ext2 (fun _ z => z) fun _ z => .inl z
            obtain ⟨a, ea, col⟩ := srt_col I2 hc rx (vx.rb R2 e2) e3 c2
            subst ea
            refine srt_core I2 hu kv kt kz e4 c1 c2 col fun xs pp rr hp => ?_
            exact h _ _ (fin_ R2 (p1.ext.trans ext2) (fun _ z => .inl z) (pr_lst hp rr))
          · rw [if_neg c] at h; exact h.elim
end Vx
set_option maxHeartbeats 2000000
namespace Vx
open PySem PySem.Spec L2
def kAbs : D → Option D
  | .int i => some (.int (if i < 0 then -i else i))
  | _ => none
def kAbsP : D → Option D
  | .int i => some (.tuple [.int (if i < 0 then -i else i), .int i])
  | _ => none
section
variable {X : Cx} {tb : List (Addr × Str)} {p : Pos}
theorem ke_abs (hg : Gl X "abs") (hm : X.mg "abs" = none) (hv : bootBuiltins "abs" = some (.builtin "abs") := by rfl) : KeyE X tb (.Name "abs" p) kAbs := by
  refine ⟨fun pins s σ H Q E I hT h => ?_⟩
  refine ld_blt I hg hm hv (h (.builtin "abs") s H I (fun _ _ e _ => e) (fun _ e => e) hT (fun x => rfl) ?_) (by decide) (by decide)
  intro A g tk x v d kd hk hx rx e
  cases d with
  | int i =>
    cases e
    cases hx
    obtain ⟨t, rfl⟩ := rx
    exact PyProof.Rows.call_abs_int fun u tk2 => ⟨g, tk2, rfl, fun _ _ e => e, Reads.int _ _⟩
  | _ => cases e
end
section
variable {X : Cx} {pins : List (Addr × Obj)} {σ : St} {H : Hp} {s : Shared} {T : List (Addr × Str)} {c P : Addr} {params : Arguments} {body : Expr} {scope : Scope} {pos : Pos}
/-- what is asked of the maker -/
structure LamM (X : Cx) (T : List (Addr × Str)) (c P : Addr) (params : Arguments) (scope : Scope) : Prop where
  tab : LamX.TabB X.base X.mg c P
  code : X.env.code = .ref c
  mem : (P, X.env.qual ++ "<lambda>") ∈ T
  one : ∀ p ∈ T, p.1 = P → p.2 = X.env.qual ++ "<lambda>"
  dflt : defaultsOf params X.env = ([], [])
  free : ∀ y ∈ scope.names, y.2 ≠ .free
theorem cloFrom_nofree {cells : List (Str × Addr)} : ∀ {names : List (Str × NameKind)} (acc : List (Str × Addr)), (∀ y ∈ names, y.2 ≠ .free) → cloFrom cells names acc = acc
  | [], _, _ => rfl
  | (n, k) :: r, acc, h => by
    have hk := h (n, k) List.mem_cons_self
    have ih := cloFrom_nofree (cells := cells) (names := r) acc fun y hy => h y (List.mem_cons_of_mem _ hy)
    cases k <;> first | exact ih | exact absurd rfl hk
abbrev lamO (X : Cx) (params : Arguments) (body : Expr) (scope : Scope) (pm ctv : Value) (c' : Addr) : Obj := PySem.W.kla_obj "<lambda>" (X.env.qual ++ "<lambda>") params body scope [] pm c' ctv
theorem lam_new {E : Value → Shared → Prop} {Q : Value → Shared → Prop} (M : LamM X T c P params scope) (I : Inv X pins σ H s) (hT : LamX.Tabs T H)
    (h : ∀ (f c' : Addr) (pm ctv : Value) (H1 : Hp) (s' : Shared), Inv X pins σ H1 s' → LamX.ExtN H H1 → (∀ b, H b ≠ none → H1 b ≠ none) → LamX.Tabs T H1 → s'.heap.get? f = some (lamO X params body scope pm ctv c') → H1 c' = some (LamX.CodeO c' (X.env.qual ++ "<lambda>")) → Q (.ref f) s') :
    wpAny (model X.prog X.w) X.A (eval (.Lambda params body scope pos) X.env) Q E s := by
  have hfree : ∀ y ∈ scope.names, y.2 = .free → ∃ c, X.env.cells.lookup y.1 = some c := fun y hy e => absurd e (M.free y hy)
  have hcl : closureFor scope X.env = pure [] := by rw [closure_ok hfree, cloFrom_nofree [] M.free]
  obtain ⟨ps, hP, ht, ha⟩ := hT _ M.mem
  have atP : s.heap.get? P = some { cls := .none, data := .fields ps } := I.hok P _ hP
  have gN : s.heap.Ns mainGlobals X.mg := I.mod.glob.keeps I.bk
  have cd := M.tab.code.keeps I.bk
  have bm : s.heap.BuiltinsAt X.mg P := M.tab.bm.keeps I.bk
  refine PySem.W.kla_eval M.dflt ?_
  rcases hc : codeAmong pos ps.toList with _ | cv
  · refine PySem.W.kla_makeFunction (mg := X.mg) (c := c) (P := P) (ps := ps) hcl I.ok.glob gN M.code cd atP ht hc M.tab.gP bm fun c' ctv h' tk hx hge hlt hrec htb => ?_
    obtain ⟨c2, oc, vs, t, e2, hoc, hd, hv⟩ := hrec
    cases e2
    have nC : H c' = none := I.hok.fresh hge
    have nP : P ≠ c' := ne_of_none hP nC
    let ps' := ps ++ #[PySem.rawInt pos.line, PySem.rawInt pos.col, Value.ref c']
    have J := LamX.inv_table (q := X.env.qual ++ "<lambda>") (t' := tk) (more := #[PySem.rawInt pos.line, PySem.rawInt pos.col, Value.ref c']) (h' := h'.push (lamO X params body scope ((X.mg "__name__").getD .none) ctv c')) I hP
      (fun b o hb e => Heap.get?_push_of_some _ (hx b o hb e)) (Heap.get?_push_of_some _ htb) hge ⟨oc, vs, t, Heap.get?_push_of_some _ hoc, hd, hv⟩
    have other : ∀ b, b ≠ P → H b ≠ none → upd (upd H P (.tbl ps')) c' (LamX.CodeO c' (X.env.qual ++ "<lambda>")) b = H b := fun b hb hn => by
      have : b ≠ c' := fun z => hn (z ▸ nC)
      rw [upd_ne this, upd_ne hb]
    have hE : LamX.ExtN H (upd (upd H P (.tbl ps')) c' (LamX.CodeO c' (X.env.qual ++ "<lambda>"))) := fun b o e n => by
      rw [other b (fun z => n ps (Option.some.inj (e.symm.trans (z ▸ hP)))) (by rw [e]; exact fun z => nomatch z)]
      exact e
    refine h _ c' _ ctv _ _ J hE (fun b hb => ?_) (fun q hq => ?_) (Heap.get?_push_size _ rfl) upd_same
    · by_cases z : b = P
      · rw [z, upd_ne nP, upd_same]; exact fun z => nomatch z
      · rw [other b z hb]; exact hb
    · obtain ⟨qs, a1, a2, a3⟩ := hT q hq
      by_cases z : q.1 = P
      · have eq : q.2 = X.env.qual ++ "<lambda>" := M.one q hq z
        refine ⟨ps', by rw [z, upd_ne nP, upd_same], ?_, fun p' cv hcv => ?_⟩
        · show TriplesOk (ps ++ #[PySem.rawInt pos.line, PySem.rawInt pos.col, Value.ref c']).toList
          rw [show (ps ++ #[PySem.rawInt pos.line, PySem.rawInt pos.col, Value.ref c']).toList = ps.toList ++ [PySem.rawInt pos.line, PySem.rawInt pos.col, Value.ref c'] by simp]
          exact PySem.TriplesOk_snoc _ _ _ _ ht
        · rw [show ps'.toList = ps.toList ++ [PySem.rawInt pos.line, PySem.rawInt pos.col, Value.ref c'] by simp [ps']] at hcv
          rw [eq]
          rcases LamX.among_app _ ht hcv with y | y
          · obtain ⟨c0, e1, e2⟩ := ha p' cv y
            exact ⟨c0, e1, hE _ _ e2 LamX.codeO_ne⟩
          · exact ⟨c', y, upd_same⟩
      · refine ⟨qs, by rw [other _ z (by rw [a1]; exact fun z => nomatch z)]; exact a1, a2, fun p' cv hcv => ?_⟩
        obtain ⟨c0, e1, e2⟩ := a3 p' cv hcv
        exact ⟨c0, e1, hE _ _ e2 LamX.codeO_ne⟩
  · obtain ⟨c', e, hco⟩ := ha pos cv hc
    subst e
    refine PySem.W.kla_makeFunctionHit (mg := X.mg) (c := c) (P := P) (ps := ps) hcl I.ok.glob gN M.code cd atP ht hc bm fun ctv h' tk hx hsz => ?_
    exact h _ c' _ ctv H _ (I.kept fun b o e => Heap.get?_push_of_some _ (hx b o e)) (LamX.ExtN.refl H) (fun _ z => z) hT (Heap.get?_push_size _ rfl) hco
/-- lambda x: (abs(x), x) as a key -/
theorem ke_absP {x : Str} {k : Nat} {p1 p2 p3 p4 p5 : Pos} {n : Nat} (hr : Room (n + 1) X.A) (hm : X.mg "abs" = none) (M : LamM X T c P params scope)
    (hk : scope.kind = .function) (hco : scope.isCoroutine = false) (hgen : scope.isGenerator = false) (hcell : ∀ y ∈ scope.names, y.2 ≠ .cell) (hx : scope.names.lookup x = some .local) (hab : scope.names.lookup ("abs" : Str) = some .globalImplicit)
    (hbind : ∀ (v pm ctv : Value) (c' : Addr), bindArgs (PySem.W.kla_fn "<lambda>" (X.env.qual ++ "<lambda>") params (.Tuple [.Call (.Name "abs" p1) [.Name x p2] [] p3, .Name x p4] k p5) scope [] pm (.ref c') ctv) ⟨[v], []⟩ = pure [(x, v)])
    (hd : (x == ("__debug__" : Str)) = false := by decide) (hv : bootBuiltins "abs" = some (.builtin "abs") := by rfl) :
    KeyE X T (.Lambda params (.Tuple [.Call (.Name "abs" p1) [.Name x p2] [] p3, .Name x p4] k p5) scope pos) kAbsP := by
  refine ⟨fun pins s σ H Q E I hT h => ?_⟩
  refine lam_new M I hT fun f c' pm ctv H1 s' I1 ex dm tb2 hf hc' => h (.ref f) s' H1 I1 ex dm tb2 (fun x => rfl) ?_
  intro A g tk y v d kd hk2 hy ry e
  cases d with
  | int i =>
    cases e
    cases hy
    obtain ⟨t, rfl⟩ := ry
    have of1 := hk2 _ _ hf
    obtain ⟨⟨oc, vs, tq, hoc, hdc, hvc⟩, _, _⟩ := I1.hok c' _ hc'
    have hoc2 := hk2 _ _ hoc
    obtain ⟨mb, b1, b2⟩ := I.mod.blt
    have kb : ∀ b o, X.base.get? b = some o → g.get? b = some o := fun b o e => hk2 b o (I1.bk b o e)
    refine wpAny_call ?_
    refine PySem.W.kla_callFunE (show X.A.in1.in1.depth < recursionLimit from hr.in1.depth) of1 rfl hco hgen rfl ⟨c', oc, vs, tq, rfl, hoc2, hdc, hvc⟩ ?_
    rw [hbind]
    refine wpAny_pure (wpAny_newFunctionEnv hcell (fun z hz => ?_) (fun h₁ hns hsb => ⟨?_, ?_⟩) hk)
    · have : z = (x, Value.int i t) := by simpa using hz
      rw [this]; exact hx
    · exact ((I1.ok.mod.nolimit).keeps kb).fresh _ hsb
    · have kp : ∀ b o, g.get? b = some o → h₁.get? b = some o := fun b o e => hsb.extBut b o (Nat.ne_of_lt (Heap.lt_size e)) (Heap.get?_push_of_some _ e)
      have kb1 : ∀ b o, X.base.get? b = some o → h₁.get? b = some o := fun b o e => kp b o (kb b o e)
      show codeAny _ _ (.expr _ (PySem.W.envX (X.env.qual ++ "<lambda>") scope g.objs.size f (.ref c') [])) _ _
      refine PySem.W.kla_codeExpr ?_
      refine wpAny_Tuple_spliced (PyProof.Rows.args_cons ?_)
      refine PyProof.Rows.Call_ (PySem.Calls.Name_function_global hk hab (PySem.Calls.loadGlobal_builtin (mg := X.mg) (mb := mb) (I1.ok.mod.glob.keeps kb1) hm (b1.keeps kb1) ((b2 _ (by decide)).trans hv) ?_))
      refine callWith_builtin1 (wpAny_Name (wpAny_loadName_local hk hx hns (v := .int i t) (by simp [List.lookup]) ?_) hd)
      refine PyProof.Rows.call_abs_int fun u tk2 => ?_
      refine PyProof.Rows.args_cons (wpAny_Name (wpAny_loadName_local hk hx (show Heap.Ns h₁ _ _ from hns) (v := .int i t) (by simp [List.lookup]) ?_) hd)
      refine PyProof.Rows.args_nil ⟨by show 2 ≤ sizeLine; decide, ?_⟩
      refine ⟨_, _, rfl, fun b o e => Heap.get?_push_of_some _ (kp b o e), ?_⟩
      refine Reads.tuple (Heap.get?_push_size _ rfl) rfl rfl ?_
      exact ReadsAll.cons (Reads.int _ _) (ReadsAll.cons (Reads.int _ _) ReadsAll.nil)
  | _ => cases e
end
end Vx
set_option maxHeartbeats 2000000
namespace Vx
open PySem PySem.Spec L2
def keyD : D → Option Key
  | .int i => some (.inl i)
  | .str z => some (.inr z)
  | _ => none
def eqKD : D → Key → Bool
  | .int i, .inl j => decide (i = j)
  | .str i, .inr j => decide (i = j)
  | _, _ => false
def putD (ks : List (D × D)) (k : Key) (d : D) : List (D × D) := if (ks.any fun p => eqKD p.1 k) = true then ks.map (fun p => if eqKD p.1 k = true then (p.1, d) else p) else ks ++ [(kD k, d)]
theorem eqKD_kD (k j : Key) : eqKD (kD k) j = decide (k = j) := by
  cases k <;> cases j <;> simp [eqKD, kD]
theorem keyD_kV {K : PySem.W.Frag} {A : Fo} {H : Hp} {kd : D} {k : Key} {y : V} (e : keyD kd = some k) (r : RD K A H y kd) : y = kV k := by
  cases kd <;> cases e <;> cases r <;> rfl
section
variable {K : PySem.W.Frag} {A : Fo} {H : Hp}
theorem RKs.anyK (k : Key) : ∀ {kvs : List (Key × V)} {ks : List (D × D)}, RKs K A H kvs ks → (kvs.any fun kv => decide (kv.1 = k)) = ks.any fun p => eqKD p.1 k
  | [], [], _ => rfl
  | (k', _) :: _, _ :: _, .cons _ t => by
    rw [List.any_cons, List.any_cons, RKs.anyK k t, eqKD_kD]
theorem RKs.mapK (k : Key) {v : V} {d : D} (r : RD K A H v d) : ∀ {kvs : List (Key × V)} {ks : List (D × D)}, RKs K A H kvs ks → RKs K A H (kvs.map fun kv => if kv.1 = k then (kv.1, v) else kv) (ks.map fun p => if eqKD p.1 k = true then (p.1, d) else p)
  | [], [], _ => .nil
  | (k', u) :: _, _ :: _, .cons h t => by
    rw [List.map_cons, List.map_cons]
    by_cases c : k' = k
    · rw [if_pos c, if_pos (by rw [eqKD_kD]; exact decide_eq_true c)]
      exact .cons r (RKs.mapK k r t)
    · rw [if_neg c, if_neg (by rw [eqKD_kD]; exact fun z => c (of_decide_eq_true z))]
      exact .cons h (RKs.mapK k r t)
theorem RKs.snoc (k : Key) {v : V} {d : D} (r : RD K A H v d) : ∀ {kvs : List (Key × V)} {ks : List (D × D)}, RKs K A H kvs ks → RKs K A H (kvs ++ [(k, v)]) (ks ++ [(kD k, d)])
  | [], [], _ => .cons r .nil
  | _ :: _, _ :: _, .cons h t => .cons h (RKs.snoc k r t)
theorem RKs.put {kvs : List (Key × V)} {ks : List (D × D)} (h : RKs K A H kvs ks) (k : Key) {v : V} {d : D} (r : RD K A H v d) : RKs K A H (putK kvs k v) (putD ks k d) := by
  unfold putK putD
  rw [h.anyK k]
  by_cases c : (ks.any fun p => eqKD p.1 k) = true
  · rw [if_pos c, if_pos c]; exact h.mapK k r
  · rw [if_neg c, if_neg c]; exact h.snoc k r
end
def dcI (t : Tg) (tt : M Bool) (ke e : M Op) (vs : List Nat) : List D → List (D × D) → M (List (D × D))
  | [], acc, ρ => .ok acc ρ
  | d :: ds, acc, ρ => match t d (unS ρ vs) with
    | none => .no
    | some ρ1 => match tt ρ1 with
      | .ok true ρ2 => (match mK ke ρ2 with
        | .ok kd ρ3 => (match mK e ρ3 with
          | .ok y ρ4 => (match keyD kd with
            | some k => if acc.length < sizeLine then dcI t tt ke e vs ds (putD acc k y) ρ4 else .no
            | none => .no)
          | _ => .no)
        | _ => .no)
      | .ok false ρ2 => dcI t tt ke e vs ds acc ρ2
      | _ => .no
def mDc (it : M (List D)) (t : Tg) (tt : M Bool) (ke e : M Op) (vs : List Nat) : M Op := fun ρ => (it ρ).bind fun ds ρ1 =>
  if vs.all (fun v => wipable ρ1[v]?) then (match dcI t tt ke e vs ds [] ρ1 with
    | .ok acc ρ2 => .ok (.fr (.dict acc)) (bkS ρ1 ρ2 vs)
    | _ => .no) else .no
section
variable {K : PySem.W.Frag} {F : Fc} {t : Tg} {ws : List Nat} {tt : M Bool} {ke e : M Op} {it : M (List D)} {vs : List Nat}
theorem liftDc {σ : St} {H : Hp} {Q : VK} (hw : ∀ w ∈ ws, w ∈ vs) (h : liftE K F (mDc it t tt ke e vs) σ H Q) :
    tDc (liftI K F it) (liftG K F.nox t ws) (liftT K F.nox tt) (liftK K F.nox (mK ke)) (liftK K F.nox (mK e)) vs σ H Q := by
  obtain ⟨T, ρ, R, h⟩ := h
  refine ⟨T, ρ, R, ?_⟩
  unfold mDc at h
  cases e1 : it ρ with
  | no => rw [e1] at h; exact h.elim
  | er x ρ' => rw [e1] at h; exact h
  | ok ds ρ1 =>
    rw [e1] at h
    rw [Rs.bind_ok] at h
    intro J H1 R1 x1 ok D hD
    by_cases c : (vs.all fun v => wipable ρ1[v]?) = true
    · rw [if_pos c] at h
      have wp : ∀ v ∈ vs, wipable ρ1[v]? = true := List.all_eq_true.mp c
      cases e2 : dcI t tt ke e vs ds [] ρ1 with
      | no => rw [e2] at h; exact h.elim
      | er x ρ' => rw [e2] at h; exact h.elim
      | ok accF ρF =>
        rw [e2] at h
        dsimp only at h
        -- the new list is forbidden
        have hD0 : F.H0 D = none := R1.h0none hD
        let TD : Fo := fun b => T b ∨ b = D
        have gr : ∀ b o, H1 b = some o → upd H1 D (.dK []) b = some o := upd_grow hD
        have R1d : Rel K F TD (upd H1 D (.dK [])) σ ρ1 := R1.more (fun b z => z.imp id fun z => by subst z; exact ⟨hD, by rw [upd_same]; exact fun z => nomatch z⟩) gr
        have lD : Le (Fb F T σ ρ1) H1 (Fb F TD (L2.wipe σ vs) (unS ρ1 vs)) (upd H1 D (.dK [])) := ⟨fun b o q _ _ => gr b o q, fun b z => by
          rcases z with z | z | z
          · exact .inl (.inl z)
          · exact z.imp (fun z => .inr (.inl z)) fun z => by rw [z]; exact hD
          · exact .inl (.inr (.inr (os_wipe z))), grow_dom gr⟩
        have xw : Ext σ ρ1 H1 (L2.wipe σ vs) (unS ρ1 vs) (upd H1 D (.dK [])) := ⟨fun b o q _ _ => gr b o q, fun b z => .inl (os_wipe z), grow_dom gr⟩
        -- the state ahead of turn i
        let Wc : Nat → Hp → Prop := fun i H' => ∃ ρ' acc accD, Rel K F TD H' (L2.wipe σ vs) (unS ρ' vs) ∧ H' D = some (.dK acc) ∧ RKs K (Fb F TD (L2.wipe σ vs) (unS ρ' vs)) H' acc accD ∧
          Ext σ ρ1 H1 (L2.wipe σ vs) (unS ρ' vs) H' ∧ Le (Fb F T σ ρ1) H1 (Fb F TD (L2.wipe σ vs) (unS ρ' vs)) H' ∧ dcI t tt ke e vs (ds.drop i) accD ρ' = .ok accF ρF
        refine ⟨fun i m H' => m = ds.length - i ∧ i ≤ ds.length ∧ Wc i H', ⟨ds.length, rfl, Nat.zero_le _, ρ1, [], [], R1d.wipe, upd_same, .nil, xw, lD, e2⟩, ?_⟩
        rintro i m H2 ⟨rfl, hi, ρ2, acc, accD, R2, hacc, racc, x2, l2, g2⟩
        obtain ⟨go, stop⟩ := ok i _ H2 l2 (fun b z => R2.fbd z) R2.keep
        by_cases hlt : i < ds.length
        · refine .inr ?_
          have ed : ds.drop i = ds[i] :: ds.drop (i + 1) := List.drop_eq_getElem_cons hlt
          obtain ⟨hgo, hy⟩ := go ds[i] (List.getElem?_eq_getElem hlt)
          rw [ed] at g2
          refine ⟨hgo, Wc (i + 1), fun H' n => ⟨ds.length - (i + 1), by omega, rfl, hlt, n⟩, fun x H3 y => ?_⟩
          obtain ⟨gr3, rx⟩ := hy x H3 y
          have R3 := R2.grow gr3
          unfold dcI at g2
          cases q1 : t ds[i] (unS ρ2 vs) with
          | none => rw [q1] at g2; cases g2
          | some ρ3 =>
            rw [q1] at g2
            dsimp only at g2
            refine ⟨TD, unS ρ2 vs, ds[i], R3.nox, rx, ρ3, q1, fun σ4 H4 R4 x4 w4 => ⟨wipe_eq w4 hw, TD, ρ3, R4, ?_⟩⟩
            have we := wipe_eq w4 hw
            have x24 : Ext (L2.wipe σ vs) (unS ρ2 vs) H2 σ4 ρ3 H4 := (Ext.grow gr3).trans x4
            -- back to the block's own slots
            have back : ∀ {ρ5 : Ev} {H5 : Hp}, Rel K F TD H5 σ4 ρ5 → Ext σ4 ρ3 H4 σ4 ρ5 H5 → Rel K F TD H5 (L2.wipe σ vs) (unS ρ5 vs) ∧ Ext (L2.wipe σ vs) (unS ρ2 vs) H2 (L2.wipe σ vs) (unS ρ5 vs) H5 := fun {ρ5 H5} R5 x5 => by
              have r := R5.wipe (vs := vs)
              rw [we] at r
              refine ⟨r, (x24.trans x5).kept, fun b z => ?_, (x24.trans x5).dom⟩
              have z : OS (L2.wipe σ4 vs) (unS ρ5 vs) b := by rw [we]; exact z
              exact (x24.trans x5).os b (os_wipe z)
            have dst : ∀ {ρ5 : Ev} {H5 : Hp}, Ext σ4 ρ3 H4 σ4 ρ5 H5 → H5 D = some (.dK acc) := fun {ρ5 H5} x5 =>
              (x24.trans x5).kept D _ hacc rfl fun z => (R2.os z).2.1 (.inr rfl)
            have go1 : ∀ {ρ5 : Ev} {H5 : Hp}, Rel K F TD H5 σ4 ρ5 → Ext σ4 ρ3 H4 σ4 ρ5 H5 → dcI t tt ke e vs (ds.drop (i + 1)) accD ρ5 = .ok accF ρF → Wc (i + 1) H5 := fun {ρ5 H5} R5 x5 g5 => by
              obtain ⟨b1, b2⟩ := back R5 x5
              have l5 : Le (Fb F TD (L2.wipe σ vs) (unS ρ2 vs)) H2 (Fb F TD (L2.wipe σ vs) (unS ρ5 vs)) H5 := b2.fb fun _ z => .inl z
              exact ⟨ρ5, acc, accD, b1, dst x5, RKs.mono l5 _ _ racc, x2.trans b2, l2.trans l5, g5⟩
            cases q2 : tt ρ3 with
            | no => rw [q2] at g2; cases g2
            | er z ρ' => rw [q2] at g2; cases g2
            | ok k ρ5 =>
              rw [q2] at g2
              intro H5 R5 x5
              cases k with
              | false =>
                dsimp only at g2
                rw [if_neg Bool.false_ne_true]
                exact go1 R5.unnox x5 g2
              | true =>
                dsimp only at g2
                rw [if_pos rfl]
                refine ⟨TD, ρ5, R5, ?_⟩
                cases q0 : mK ke ρ5 with
                | no => rw [q0] at g2; cases g2
                | er z ρ' => rw [q0] at g2; cases g2
                | ok kd ρ5b =>
                  rw [q0] at g2
                  dsimp only at g2
                  intro y H5b R5b x5b r5b
                  refine ⟨TD, ρ5b, R5b, ?_⟩
                  cases q3 : mK e ρ5b with
                  | no => rw [q3] at g2; cases g2
                  | er z ρ' => rw [q3] at g2; cases g2
                  | ok d ρ6 =>
                    rw [q3] at g2
                    dsimp only at g2
                    cases q7 : keyD kd with
                    | none => rw [q7] at g2; cases g2
                    | some key =>
                    rw [q7] at g2
                    dsimp only at g2
                    by_cases cz : accD.length < sizeLine
                    · rw [if_pos cz] at g2
                      intro v H6 R6 x6 r6
                      have x46 := (x5.trans x5b).trans x6
                      have h6 := dst x46
                      refine ⟨acc, key, keyD_kV q7 r5b, h6, by rw [racc.length]; exact cz, ?_⟩
                      obtain ⟨b1, b2⟩ := back R6.unnox x46
                      have l6 : Le (Fb F TD (L2.wipe σ vs) (unS ρ2 vs)) H2 (Fb F TD (L2.wipe σ vs) (unS ρ6 vs)) H6 := b2.fb fun _ z => .inl z
                      have fD : Fb F TD (L2.wipe σ vs) (unS ρ6 vs) D := .inr (.inl (.inr rfl))
                      have ne : ∀ b, b ≠ D → upd H6 D (.dK (putK acc key v)) b = H6 b := fun b z => upd_ne z
                      have dm7 : ∀ b, H6 b ≠ none → upd H6 D (.dK (putK acc key v)) b ≠ none := fun b z => by
                        by_cases q : b = D
                        · rw [q, upd_same]; exact fun z => nomatch z
                        · rw [ne b q]; exact z
                      have l7 : Le (Fb F TD (L2.wipe σ vs) (unS ρ6 vs)) H6 (Fb F TD (L2.wipe σ vs) (unS ρ6 vs)) (upd H6 D (.dK (putK acc key v))) := ⟨fun b o q _ n => by rw [ne b fun z => n (by rw [z]; exact fD)]; exact q, fun b z => .inl z, dm7⟩
                      have nos : ∀ b, OS (L2.wipe σ vs) (unS ρ6 vs) b → b ≠ D := fun b z q => (b1.os z).2.1 (by rw [q]; exact .inr rfl)
                      have R7 : Rel K F TD (upd H6 D (.dK (putK acc key v))) (L2.wipe σ vs) (unS ρ6 vs) := b1.to l7 (fun b z o q => by rw [ne b (nos b z)]; exact q) (fun b z => (b1.os z).2.1) (fun b z => dm7 b (b1.tdom b z)) (fun b o q _ n q2 => by
                        rw [ne b fun z => by rw [z, hD0] at q; cases q]; exact q2) dm7 fun z => tabs_dct z h6
                      have vd : RD K (Fb F TD (L2.wipe σ vs) (unS ρ6 vs)) H6 v d := RD.mono (Le.less fun b z => by
                        rcases z with z | z | z
                        · exact .inl z
                        · exact .inr (.inl z)
                        · have z : OS (L2.wipe σ4 vs) (unS ρ6 vs) b := by rw [we]; exact z
                          exact .inr (.inr (os_wipe z))) _ _ r6
                      have x7 : Ext σ ρ1 H1 (L2.wipe σ vs) (unS ρ6 vs) (upd H6 D (.dK (putK acc key v))) := by
                        have x8 := x2.trans b2
                        refine ⟨fun b o q t n => ?_, x8.os, fun b z => dm7 b (x8.dom b z)⟩
                        rw [ne b fun z => by rw [z, hD] at q; cases q]
                        exact x8.kept b o q t n
                      exact ⟨ρ6, putK acc key v, putD accD key d, R7, upd_same, RKs.mono l7 _ _ ((RKs.mono l6 _ _ racc).put key vd), x7, (l2.trans l6).trans l7, g2⟩
                    · rw [if_neg cz] at g2; cases g2
        · have en : ds.length = i := by omega
          refine .inl ⟨stop en, ?_⟩
          rw [List.drop_eq_nil_of_le (Nat.le_of_eq en)] at g2
          unfold dcI at g2
          cases g2
          have hl : ρF.length = ρ1.length := by
            have := R2.len
            rw [unS_len, wipe_length] at this
            rw [this, R1.len]
          have RF : Rel K F TD H2 σ (bkS ρ1 ρF vs) := Rel.unwipe R1 wp R2 l2
          have tt_ : ∀ b, TTf T (.ref D) (.fr (.dict accF)) b → TD b := fun b z => z.imp id fun ⟨_, _, z⟩ => by cases z; rfl
          have fl : ∀ b, Fb F (TTf T (.ref D) (.fr (.dict accF))) σ (bkS ρ1 ρF vs) b → Fb F TD (L2.wipe σ vs) (unS ρF vs) b := fun b z => by
            rcases z with z | z | z
            · exact .inl z
            · exact .inr (.inl (tt_ b z))
            · exact .inr (.inr (os_unwipe wp hl z))
          refine h _ H2 ⟨RF.less tt_, x1.trans ⟨x2.kept, fun b z => x2.os b (os_unwipe wp hl z), x2.dom⟩, ⟨D, rfl, .inr ⟨_, rfl, rfl⟩, ⟨acc, hacc, RKs.mono (Le.less fl) _ _ racc⟩, fun z => R1.tdom D (.inl z) hD, hD0⟩, fun d a e1 e2 => ?_⟩
          cases e2
          cases q : H D with
          | none => rfl
          | some o => exact absurd hD (x1.dom D (by rw [q]; exact fun z => nomatch z))
    · rw [if_neg c] at h; exact h.elim
end
theorem qe_dc {X : Cx} {F : Fc} {kx vx tg iter : Expr} {ifs : List Expr} {scope : Scope} {own : List (Str × Nat)} {pos : Pos} {t : Tg} {ws : List Nat} {tt : M Bool} {ke e : M Op} {it : M (List D)}
    (hc : X.calm = true) (hN : X.N.Nodup) (hi : QI X F tg iter it) (ok : BlkOk X.N X.env.scope scope own) (hw : ∀ w ∈ ws, w ∈ own.map (·.2))
    (hg : ∀ s H C cl fp, QG (X.blk s H scope (compEnvC scope cl C X.env) fp) F.nox tg t ws) (ht : ∀ s H C cl fp, PTs (X.blk s H scope (compEnvC scope cl C X.env) fp) ifs (liftT X.K F.nox tt))
    (hk : ∀ s H C cl fp, QE (X.blk s H scope (compEnvC scope cl C X.env) fp) F.nox kx ke) (he : ∀ s H C cl fp, QE (X.blk s H scope (compEnvC scope cl C X.env) fp) F.nox vx e) (hs : ∀ x, foldedSetIterable iter X.env x = pure x := by intro _; rfl) :
    QE X F (.DictComp kx vx [⟨tg, iter, ifs, 0⟩] scope pos) (mDc it t tt ke e (own.map (·.2))) :=
  (pe_dc (g := liftG X.K F.nox t ws) (tk := liftK X.K F.nox (mK ke)) (tv := liftK X.K F.nox (mK e)) hc hN hi ok hg ht (fun s H C cl fp => liftK_ (hk s H C cl fp)) (fun s H C cl fp => liftK_ (he s H C cl fp)) hs).imp fun _ _ _ h => liftDc hw h
end Vx
set_option maxHeartbeats 2000000
namespace Vx
open PySem PySem.Spec L2
theorem loc_of {sc : Scope} {x : Str} (h : sc.names.lookup x = some .local ∨ sc.names.lookup x = some .cell := by first | exact Or.inl rfl | exact Or.inr rfl) : Loc sc x := h
section
variable {k : Nat} {A : Around}
theorem u65 (r : Room k A) : A.units + 65 < cLine := by have := r.un; omega
end
section
variable {P : Program} {w : World} {K : PySem.W.Frag} {mg : Str → Option Value} {base : Heap} {x qual : Str} {params : Arguments} {body : List Stmt} {scope : Scope} {dvs : List V} {kws : List (Str × V)} {f : Addr} {fd : FuncData} {N ps : List Str} {k : Nat}
/-- THE RULE for a def whose code object is asked for -/
theorem fn_okC {cn : Str → Addr} {tb : List (Addr × Str)} {md : List Md} {m : M Fl} (F : FunD K x qual params body scope dvs kws f fd) (S : FnScope N ps scope) (hm : md.length = ps.length) (hN : ps.length ≤ N.length)
    (hb : ∀ (cdv : Value) (A : Around) (outer : List Env) (s : Shared) (H : Hp) (E : XK) (F : Fc), cdv = fd.code → Room k (A.deeper (PyProof.Rows.envOfC qual scope s.heap.objs.size f cdv)) → F.cn = cn → F.tb = tb → Takes (cxOf (L2.CX P w) P w K mg base N qual scope f cdv A outer s H E) F.W →
      QSs (cxOf (L2.CX P w) P w K mg base N qual scope f cdv A outer s H E) F body m) : FnOk P w K mg base (L2.CX P w) (k + 1) f fd ps (spV K cn tb md (runD md (N.length - md.length) m)) := by
  obtain ⟨oc, od, dV, kV, doc, pm, an, cdv, ct, osl, rfl, lk, hcd, _, _⟩ := F.ex
  refine fn_of lk hcd S (spV_len hm) fun A outer s H vs Q E hr h => ?_
  obtain ⟨htb, A', ds, ls, hA, hl, nd, r, g⟩ := h
  exact ⟨_, hb cdv A outer s H E (fcOf cn tb A' H md vs ls E) rfl hr rfl rfl (takes_of rfl rfl rfl rfl), exit_ok (σ := []) (ρ := []) hA hl nd r (by rw [hm]; exact hN) htb g⟩
/-- a def that is never called so deep -/
theorem fn_no {cn : Str → Addr} {tb : List (Addr × Str)} {md : List Md} (F : FunD K x qual params body scope dvs kws f fd) (S : FnScope N ps scope) (hm : md.length = ps.length) : FnOk P w K mg base (L2.CX P w) (k + 1) f fd ps (spV K cn tb md fun _ => .no) :=
  F.ok S (spV_len hm) fun cdv A outer s H vs Q E hr h => by
    obtain ⟨_, _, _, _, _, _, _, _, g⟩ := h
    exact g.elim
end
theorem code_of {K : PySem.W.Frag} {x qual : Str} {params : Arguments} {body : List Stmt} {scope : Scope} {dvs : List V} {kws : List (Str × V)} {f : Addr} {fd : FuncData} (F : FunD K x qual params body scope dvs kws f fd) {p : He.Defn} (hf : He.fAd K p = f) : fd.code = .ref (He.cT K p).1 := by
  obtain ⟨oc, od, dV, kV, doc, pm, an, cdv, ct, osl, rfl, lk, hcd, _, _⟩ := F.ex
  subst hf
  cases cdv with
  | ref c => exact congrArg Value.ref (He.codeOf_eq lk rfl).symm
  | _ => cases hcd
theorem cx_no {P : Program} {w : World} {H : Hp} {s s' : Shared} {e : Value} {fs : List Env} (z : L2.CX P w fs H s (fun _ _ _ => False) e s') : False := by
  obtain ⟨_, _, _, _, _, _, _, _, _, _, _, _, q⟩ := z
  exact q
/-- the law's promise from what its mirror says -/
theorem law_sp {K : PySem.W.Frag} {cn : Str → Addr} {tb : List (Addr × Str)} {g : List D → FR} {H : Hp} {a : Addr} {ns : List Int} {E : XK} (hT : ∀ p ∈ tb, H p.1 = some (.tbl #[])) (hS : SqL K H a (ns.map V.int)) (hl : g [.list (ns.map .int)] = .ok false (.bool true) []) :
    spV K cn tb [.pl] g [.ref a] H (fun v _ => v = .bl true) E := by
  refine ⟨fun p hp => LamX.TabS.nil (hT p hp), fun _ => False, [.list (ns.map .int)], [], fun _ z => z.elim, fun _ z => (nomatch z), List.nodup_nil, ?_, ?_⟩
  · refine .pl (.inr ⟨a, rfl, .inl ⟨_, _, rfl, ?_, RDs.ints ns⟩⟩) .nil
    rcases hS with hS | hS
    · exact .inl ⟨hS, fun z => nomatch z⟩
    · exact .inr hS
  · rw [hl]
    intro v H' _ _ r
    have r : RD K (fun _ => False) H' v (.bool true) := r
    cases r; rfl
end Vx
set_option maxHeartbeats 2000000
namespace Vx
open PySem PySem.Spec L2
/-- room, and no repr is under way -/
structure RoomG (k : Nat) (A : Around) : Prop where
  room : Room k A
  gd : A.guards = some []
theorem RoomG.mono {j k : Nat} {A : Around} (r : RoomG k A) (h : j ≤ k) : RoomG j A := ⟨r.room.mono h, r.gd⟩
theorem RoomG.units {k : Nat} {A : Around} (r : RoomG k A) : A.units + 64 < cLine := by have := r.room.un; omega
theorem u65g {k : Nat} {A : Around} (r : RoomG k A) : A.units + 65 < cLine := by have := r.room.un; omega
/-- slot i is forgotten, unless it is a lent one -/
def isLe : Option Sl → Bool
  | some (.le _) => true
  | _ => false
@[simp] theorem isLe_un : isLe (some .un) = false := rfl
@[simp] theorem isLe_cl (d : D) : isLe (some (.cl d)) = false := rfl
@[simp] theorem isLe_bo (d : D) : isLe (some (.bo d)) = false := rfl
@[simp] theorem isLe_ow (d : D) : isLe (some (.ow d)) = false := rfl
@[simp] theorem isLe_le (d : D) : isLe (some (.le d)) = true := rfl
def kl (i : Nat) (ρ : Ev) : Ev := if isLe ρ[i]? = true then ρ else ρ.set i .un
def klA : List Nat → Ev → Ev
  | [], ρ => ρ
  | i :: is, ρ => klA is (kl i ρ)
def sKl (is : List Nat) (m : M Fl) : M Fl := fun ρ => (m ρ).bind fun f ρ1 => match f with
  | .nx => .ok .nx (klA is ρ1)
  | .bk => .ok .bk (klA is ρ1)
  | .ct => .ok .ct (klA is ρ1)
  | .rt x => .ok (.rt x) ρ1
@[simp] theorem klA_nil (ρ : Ev) : klA [] ρ = ρ := rfl
@[simp] theorem klA_cons (i : Nat) (is : List Nat) (ρ : Ev) : klA (i :: is) ρ = klA is (if isLe ρ[i]? = true then ρ else ρ.set i .un) := rfl
@[simp] theorem ev_sKl (is : List Nat) (m : M Fl) (ρ : Ev) : sKl is m ρ = (m ρ).bind fun f ρ1 => match f with
  | .nx => .ok .nx (klA is ρ1)
  | .bk => .ok .bk (klA is ρ1)
  | .ct => .ok .ct (klA is ρ1)
  | .rt x => .ok (.rt x) ρ1 := rfl
section
variable {K : PySem.W.Frag} {F : Fc} {T : Fo} {H H' : Hp} {σ σ' : St} {ρ ρ1 : Ev}
theorem kl_get {i j : Nat} {s : Sl} (h : (kl i ρ)[j]? = some s) (hs : s ≠ .un) : ρ[j]? = some s := by
  unfold kl at h
  split at h
  · exact h
  · rw [List.getElem?_set] at h
    split at h
    · split at h
      · exact absurd (Option.some.inj h).symm hs
      · cases h
    · exact h
theorem kl_own {i j : Nat} (h : OwnS (kl i ρ)[j]? = true) : OwnS ρ[j]? = true := by
  obtain ⟨d, e | e⟩ := ownS_cases h
  · rw [kl_get e (fun z => nomatch z)]; rfl
  · rw [kl_get e (fun z => nomatch z)]; rfl
theorem kl_os {i : Nat} {b : Addr} (h : OS σ (kl i ρ) b) : OS σ ρ b := by
  obtain ⟨j, h1, h2⟩ := h
  exact ⟨j, kl_own h1, h2⟩
theorem Rel.kl (R : Rel K F T H σ ρ) (i : Nat) : Rel K F T H σ (kl i ρ) := by
  have fb : ∀ b, Fb F T σ (Vx.kl i ρ) b → Fb F T σ ρ b := fun b h => h.imp id fun h => h.imp id kl_os
  have le : Le (Fb F T σ ρ) H (Fb F T σ (Vx.kl i ρ)) H := Le.less fb
  refine ⟨?_, fun j d e => ?_, fun j d e => ?_, fun j d e => ?_, fun j d e => ?_, fun j k b h1 h2 h3 h4 => R.inj j k b (kl_own h1) h2 (kl_own h3) h4, R.keep, R.dom, R.tdom, R.tabs⟩
  · unfold Vx.kl; split
    · exact R.len
    · rw [List.length_set]; exact R.len
  · obtain ⟨v, q1, q2⟩ := R.cl j d (kl_get e fun z => nomatch z)
    exact ⟨v, q1, RD.mono le _ _ q2⟩
  · obtain ⟨a, q1, q2⟩ := R.bo j d (kl_get e fun z => nomatch z)
    exact ⟨a, q1, q2.mono le⟩
  · obtain ⟨a, q1, q2, q3, q4, q5⟩ := R.ow j d (kl_get e fun z => nomatch z)
    exact ⟨a, q1, q2.mono le fun _ z => z, q3, q4, q5⟩
  · obtain ⟨a, q0, q1, q2, q3, q4⟩ := R.le j d (kl_get e fun z => nomatch z)
    exact ⟨a, q0, q1, q2.mono le fun _ z => z, q3, q4⟩
theorem Ext.kl (e : Ext σ ρ H σ' ρ1 H') (i : Nat) : Ext σ ρ H σ' (kl i ρ1) H' := ⟨e.kept, fun b h => e.os b (kl_os h), e.dom⟩
theorem Rel.klA : ∀ (is : List Nat) {ρ : Ev}, Rel K F T H σ ρ → Rel K F T H σ (klA is ρ)
  | [], _, R => R
  | i :: is, _, R => Rel.klA is (R.kl i)
theorem Ext.klA : ∀ (is : List Nat) {ρ1 : Ev}, Ext σ ρ H σ' ρ1 H' → Ext σ ρ H σ' (klA is ρ1) H'
  | [], _, e => e
  | i :: is, _, e => Ext.klA is (e.kl i)
theorem liftKl {D : Ends} {is : List Nat} {m : M Fl} (h : liftS K F (sKl is m) D σ H) : liftS K F m D σ H := by
  obtain ⟨ρ, R, h⟩ := h
  refine ⟨ρ, R, ?_⟩
  unfold sKl at h
  cases e : m ρ with
  | no => rw [e] at h; exact h
  | er x ρ1 => rw [e] at h; exact h
  | ok f ρ1 =>
    rw [e] at h
    cases f with
    | nx => exact fun σ' H' R1 x1 => h σ' H' (R1.klA is) (x1.klA is)
    | bk => exact fun σ' H' R1 x1 => h σ' H' (R1.klA is) (x1.klA is)
    | ct => exact fun σ' H' R1 x1 => h σ' H' (R1.klA is) (x1.klA is)
    | rt x => exact h
end
section
variable {X : Cx} {F : Fc} {m : M Fl}
theorem qs_kl {st : Stmt} (is : List Nat) (h : QS X F st m) : QS X F st (sKl is m) := h.imp fun _ _ _ h => liftKl h
theorem qss_kl {st : List Stmt} (is : List Nat) (h : QSs X F st m) : QSs X F st (sKl is m) := h.imp fun _ _ _ h => liftKl h
end
end Vx
set_option maxHeartbeats 2000000
namespace Vx
open PySem PySem.Spec L2
/-- the classes over ValueError -/
abbrev excB : List Value := [.type "ValueError", .type "Exception", .type "BaseException", .type "object"]
section
variable {X : Cx}
theorem mk_own0 {C : Addr} {bmB : List Value} {B newId initId : String} {x : Str} {p pos : Pos} (F : ExcBaseFacts B newId initId bmB) (q : PySem.W.excIn X.K C bmB newId = true) (gC : X.mg x = some (.ref C)) (kC : PySem.W.keepIn X.K (.ref C) = true) (r : Raises X (.ref C)) (hg : Gl X x)
    (hdb : (x == ("__debug__" : Str)) = false := by decide) : PMk X (.Call (.Name x p) [] [] pos) (fun _ H Q => Q (.ref C) none H) := by
  intro pins s σ H Q I h
  refine wpAny_Call_Name_kw (ld_glob I hg gC ?_ hdb)
  refine PySem.W.callWith_K0 I.kIn kC ?_
  obtain ⟨bm, N, nm, qn, bs, hdct, sn, sub, ab, col, dd, k0, k1, k2, k3, k5, mN, hC, hN, hni, T⟩ := exc_obj I.kIn q
  refine wpAny_call_exc_subT F T hC hN hni (fun h' e hm => ?_) (Nat.zero_le _)
  exact mk_of I hm r h (I.hok.gone hm.new)
/-- raise C() -/
def sRaise (x : Str) : M Fl := fun ρ => .er ⟨x, none⟩ ρ
@[simp] theorem ev_sRaise (x : Str) (ρ : Ev) : sRaise x ρ = .er ⟨x, none⟩ ρ := rfl
/-- what a class must say, so that it is raised -/
structure ExR (K : PySem.W.Frag) (mg : Str → Option Value) (x : Str) (C : Addr) : Prop where
  g : mg x = some (.ref C)
  ex : PySem.W.excIn K C excB "ValueError.__new__" = true
  kp : PySem.W.keepIn K (.ref C) = true
  sb : PySem.W.subIn K (.ref C) (.type "BaseException") = some true
  ty : PySem.W.typeIn K (.ref C) = some (.type "type")
theorem qs_raise {F : Fc} {x : Str} {p pos pos' : Pos} (E : ExR X.K X.mg x (F.cn x)) (hc : X.calm = true) (tk : Takes X F.W) (hg : Gl X x) (hdb : (x == ("__debug__" : Str)) = false := by decide) :
    QS X F (.Raise (some (.Call (.Name x p) [] [] pos)) none pos') (sRaise x) := by
  refine (ps_raise hc tk (mk_own0 PySem.F.excBase_ValueError E.ex E.g E.kp (raises_own E.sb E.ty) hg hdb)).imp fun D σ H h => ?_
  obtain ⟨ρ, R, h⟩ := h
  have h : ErS X.K F H σ ρ ⟨x, none⟩ ρ := h
  exact h (.ref (F.cn x)) none σ H R (Ext.refl ..) ⟨rfl, fun _ => rfl⟩
end
end Vx
set_option maxHeartbeats 2000000
namespace Vx
open PySem PySem.Spec L2
/-- what a call of a thunk comes to -/
inductive Th where
  | ok (d : D)
  | er (x : Er)
def isOp (t : Str) (a : Addr) : D → Bool
  | .dict [(.list [.str u], .int b)] => decide (u = t) && decide (b = ((a : Nat) : Int))
  | _ => false
@[simp] theorem isOp_op (t : Str) (a : Addr) : isOp t a (opD t a) = true := by simp [isOp, opD]
theorem isOp_eq {t : Str} {a : Addr} {d : D} (h : isOp t a d = true) : d = opD t a := by
  unfold isOp at h
  split at h
  · simp only [Bool.and_eq_true, decide_eq_true_eq] at h
    obtain ⟨rfl, rfl⟩ := h; rfl
  · cases h
theorem opq_ref {K : PySem.W.Frag} {A : Fo} {H : Hp} {v : V} {t : Str} {a : Addr} (h : RD K A H v (opD t a)) : v = .ref a := by
  unfold opD at h
  generalize hz : ([(PyData.list [.str t], PyData.int (a : Nat))] : List (D × D)) = ks at h
  cases h with
  | dct r n q =>
    have := q.plain
    rw [← hz] at this; cases this
  | opq =>
    rename_i b u
    have e : (PyData.int (a : Nat)) = .int (b : Nat) := by
      have := List.head_eq_of_cons_eq hz
      exact (Prod.mk.inj this).2
    have : ((a : Nat) : Int) = (b : Nat) := PyData.int.inj e
    rw [show b = a from (Int.ofNat.inj this).symm]
/-- x() where x is a thunk at f -/
def mAct (i : Nat) (f : Addr) (th : Th) : M Op := fun ρ => match ρ[i]? with
  | some (.cl d) => if isOp "fn" f d = true then (match th with
    | .ok d => .ok (.val d) ρ
    | .er x => .er x ρ) else .no
  | _ => .no
/-- try: body; except .. as the name of slot i: suite; a: the error's place -/
def sTry (i : Nat) (ok : Str → Bool) (mb : M Fl) (ms : Str → Addr → M Fl) (a : Addr) : M Fl := fun ρ => match mb ρ with
  | .er x ρ1 => if (ok x.cls && x.arg.isNone && free ρ1[i]?) = true then (match ms x.cls a (ρ1.set i (.cl (opD x.cls a))) with
    | .ok .nx ρ3 => if isLe ρ3[i]? = true then .no else .ok .nx (ρ3.set i .un)
    | .ok .bk ρ3 => if isLe ρ3[i]? = true then .no else .ok .bk (ρ3.set i .un)
    | .ok .ct ρ3 => if isLe ρ3[i]? = true then .no else .ok .ct (ρ3.set i .un)
    | .ok (.rt x) ρ3 => .ok (.rt x) ρ3
    | .er x ρ3 => .er x ρ3
    | .no => .no) else .no
  | .ok f ρ1 => .ok f ρ1
  | .no => .no
/-- for whichever place of the error -/
def liftSA (K : PySem.W.Frag) (F : Fc) (m : Addr → M Fl) : TS := fun D σ H => ∃ ρ, Rel K F noT H σ ρ ∧ ∀ a, GS K F H σ ρ D (m a ρ)
section
variable {K : PySem.W.Frag} {F : Fc} {T : Fo} {H H' : Hp} {σ σ' : St} {ρ ρ1 : Ev}
theorem Rel.wi (R : Rel K F T H σ ρ) (W : WX) : Rel K { F with W := W } T H σ ρ := ⟨R.len, R.cl, R.bo, R.ow, R.le, R.inj, R.keep, R.dom, R.tdom, R.tabs⟩
theorem Rel.wo {W : WX} (R : Rel K { F with W := W } T H σ ρ) : Rel K F T H σ ρ := ⟨R.len, R.cl, R.bo, R.ow, R.le, R.inj, R.keep, R.dom, R.tdom, R.tabs⟩
/-- a slot loses its value -/
theorem un_get {i j : Nat} {s : Sl} (h : (ρ.set i .un)[j]? = some s) (hs : s ≠ .un) : j ≠ i ∧ ρ[j]? = some s := by
  rw [List.getElem?_set] at h
  split at h
  · split at h
    · exact absurd (Option.some.inj h).symm hs
    · cases h
  · rename_i n
    exact ⟨fun z => n z.symm, h⟩
theorem un_os {i : Nat} {o : Option V} {b : Addr} (h : OS (σ.set i o) (ρ.set i .un) b) : OS σ ρ b := by
  obtain ⟨j, h1, h2⟩ := h
  obtain ⟨d, e | e⟩ := ownS_cases h1
  all_goals
    obtain ⟨n, e⟩ := un_get e fun z => nomatch z
    rw [List.getElem?_set_ne (Ne.symm n)] at h2
    exact ⟨j, by rw [e]; rfl, h2⟩
theorem Rel.un (R : Rel K F T H σ ρ) (i : Nat) (o : Option V) : Rel K F T H (σ.set i o) (ρ.set i .un) := by
  have le : Le (Fb F T σ ρ) H (Fb F T (σ.set i o) (ρ.set i .un)) H := Le.less fun b h => h.imp id fun h => h.imp id un_os
  have sg : ∀ {j : Nat}, j ≠ i → (σ.set i o)[j]? = σ[j]? := fun n => List.getElem?_set_ne (Ne.symm n)
  have own : ∀ {j : Nat}, OwnS (ρ.set i .un)[j]? = true → j ≠ i ∧ OwnS ρ[j]? = true := fun {j} h => by
    obtain ⟨d, e | e⟩ := ownS_cases h
    all_goals
      obtain ⟨n, e⟩ := un_get e fun z => nomatch z
      exact ⟨n, by rw [e]; rfl⟩
  refine ⟨by rw [List.length_set, List.length_set]; exact R.len, fun j d e => ?_, fun j d e => ?_, fun j d e => ?_, fun j d e => ?_, fun j k b h1 h2 h3 h4 => ?_, R.keep, R.dom, R.tdom, R.tabs⟩
  · obtain ⟨n, e⟩ := un_get e fun z => nomatch z
    obtain ⟨v, q1, q2⟩ := R.cl j d e
    exact ⟨v, by rw [sg n]; exact q1, RD.mono le _ _ q2⟩
  · obtain ⟨n, e⟩ := un_get e fun z => nomatch z
    obtain ⟨a, q1, q2⟩ := R.bo j d e
    exact ⟨a, by rw [sg n]; exact q1, q2.mono le⟩
  · obtain ⟨n, e⟩ := un_get e fun z => nomatch z
    obtain ⟨a, q1, q2, q3, q4, q5⟩ := R.ow j d e
    exact ⟨a, by rw [sg n]; exact q1, q2.mono le fun _ z => z, q3, q4, q5⟩
  · obtain ⟨n, e⟩ := un_get e fun z => nomatch z
    obtain ⟨a, q0, q1, q2, q3, q4⟩ := R.le j d e
    exact ⟨a, q0, by rw [sg n]; exact q1, q2.mono le fun _ z => z, q3, q4⟩
  · obtain ⟨n1, o1⟩ := own h1
    obtain ⟨n2, o2⟩ := own h3
    rw [sg n1] at h2
    rw [sg n2] at h4
    exact R.inj j k b o1 h2 o2 h4
theorem Ext.un (e : Ext σ ρ H σ' ρ1 H') (i : Nat) (o : Option V) : Ext σ ρ H (σ'.set i o) (ρ1.set i .un) H' := ⟨e.kept, fun b h => e.os b (un_os h), e.dom⟩
end
section
variable {X : Cx} {F : Fc} {st : Stmt} {rest : List Stmt}
theorem qsa_one {m : Addr → M Fl} (h : PS X st (liftSA X.K F m)) : PSs X [st] (liftSA X.K F m) := pss_one h
theorem qsa_cons {m1 : M Fl} {m2 : Addr → M Fl} (h1 : QS X F st m1) (h2 : PSs X rest (liftSA X.K F m2)) : PSs X (st :: rest) (liftSA X.K F fun a => sSeq m1 (m2 a)) := by
  refine (pss_cons h1 h2).imp fun D σ H h => ?_
  obtain ⟨ρ, R, h⟩ := h
  refine ⟨ρ, R, ?_⟩
  cases e : m1 ρ with
  | no => have : GS X.K F H σ ρ D (sSeq m1 (m2 0) ρ) := h 0; unfold sSeq at this; rw [e] at this; exact this
  | er x ρ1 => have : GS X.K F H σ ρ D (sSeq m1 (m2 0) ρ) := h 0; unfold sSeq at this; rw [e] at this; exact this
  | ok f ρ1 =>
    have h : ∀ a, GS X.K F H σ ρ D (match f with
      | .nx => m2 a ρ1
      | .bk => .ok .bk ρ1
      | .ct => .ok .ct ρ1
      | .rt x => .ok (.rt x) ρ1) := fun a => by have : GS X.K F H σ ρ D (sSeq m1 (m2 a) ρ) := h a; unfold sSeq at this; rw [e] at this; exact this
    cases f with
    | nx => exact fun σ' H' R1 x1 => ⟨ρ1, R1, fun a => (h a).back x1⟩
    | bk => exact h 0
    | ct => exact h 0
    | rt x => exact h 0
theorem qsa_consA {m1 : Addr → M Fl} {m2 : M Fl} (h1 : PS X st (liftSA X.K F m1)) (h2 : QSs X F rest m2) : PSs X (st :: rest) (liftSA X.K F fun a => sSeq (m1 a) m2) := by
  refine (pss_cons h1 h2).imp fun D σ H h => ?_
  obtain ⟨ρ, R, h⟩ := h
  refine ⟨ρ, R, fun a => ?_⟩
  have h : GS X.K F H σ ρ D (sSeq (m1 a) m2 ρ) := h a
  unfold sSeq at h
  cases e : m1 a ρ with
  | no => rw [e] at h; exact h
  | er x ρ1 => rw [e] at h; exact h
  | ok f ρ1 =>
    rw [e] at h
    cases f with
    | nx => exact fun σ' H' R1 x1 => ⟨ρ1, R1, GS.back h x1⟩
    | bk => exact h
    | ct => exact h
    | rt x => exact h
theorem qsa_try {i : Nat} {n x : Str} {c : Value} {ok : Str → Bool} {mb : M Fl} {ms : Str → Addr → M Fl} {body suite : List Stmt} {b₀ : Stmt} {np pos pos' : Pos} (hs : X.stack = X.env :: X.outer) (hf : X.env.frame = some X.env.locals) (hN : X.N.Nodup) (hi : X.N[i]? = some n) (hln : X.env.kindOf n = some .local) (hc : Names X x c) (tk : Takes X F.W)
    (he : ∀ t, ok t = true → PySem.W.exmOne X.K (.ref (F.cn t)) c = some true)
    (hb : ∀ (W : WX) (pn : List (Addr × Obj)) (xe : Value → Shared → Prop), Takes (X.tr pn xe) W → QSs (X.tr pn xe) { F with W := W } body mb)
    (hsu : ∀ (a : Addr) (oe : Obj) (t : Str) (pn : List (Addr × Obj)), ok t = true → Zc (.ref (F.cn t)) none oe → (∃ vs, oe.data = .fields vs) → QSs (X.suite a ((a, oe) :: pn)) F (b₀ :: suite) (ms t a)) :
    PS X (.Try body [.ExceptHandler (some (.Name x np)) (some n) (b₀ :: suite) pos'] [] [] pos) (liftSA X.K F (sTry i ok mb ms)) := by
  refine (ps_try_as (tb := fun W => liftS X.K { F with W := W } mb) (ts := fun a cls d D σ H => ∃ t, ok t = true ∧ cls = .ref (F.cn t) ∧ d = none ∧ liftS X.K F (ms t a) D σ H) hs hf hN hi hln hc tk (fun W pn xe tw _ => hb W pn xe tw) (fun a oe cls d pn hz hv => ?_)).imp fun D σ H h => ?_
  · refine ⟨fun pins s σ H D I h => ?_⟩
    obtain ⟨t, ot, rfl, rfl, h⟩ := h
    exact (hsu a oe t pn ot hz hv).run pins s σ H D I h
  · obtain ⟨ρ, R, h⟩ := h
    refine ⟨ρ, R.wi _, ?_⟩
    cases e : mb ρ with
    | no => have := h 0; unfold sTry at this; rw [e] at this; exact this
    | ok f ρ1 =>
      have h0 := h 0
      unfold sTry at h0
      rw [e] at h0
      cases f with
      | nx => exact fun σ' H' R1 x1 => h0 σ' H' R1.wo x1
      | bk => exact fun σ' H' R1 x1 => h0 σ' H' R1.wo x1
      | ct => exact fun σ' H' R1 x1 => h0 σ' H' R1.wo x1
      | rt op => exact fun σ' v H' p => h0 σ' v H' ⟨p.rel.wo, p.ext, by cases op <;> exact p.val, p.new⟩
    | er x ρ1 =>
      intro cv dd σ' H' R1 x1 k
      obtain ⟨ec, ed⟩ := k
      have h : ∀ a, GS X.K F H σ ρ D (if (ok x.cls && x.arg.isNone && free ρ1[i]?) = true then (match ms x.cls a (ρ1.set i (.cl (opD x.cls a))) with
        | .ok .nx ρ3 => if isLe ρ3[i]? = true then .no else .ok .nx (ρ3.set i .un)
        | .ok .bk ρ3 => if isLe ρ3[i]? = true then .no else .ok .bk (ρ3.set i .un)
        | .ok .ct ρ3 => if isLe ρ3[i]? = true then .no else .ok .ct (ρ3.set i .un)
        | .ok (.rt x) ρ3 => .ok (.rt x) ρ3
        | .er x ρ3 => .er x ρ3
        | .no => .no) else .no) := fun a => by have := h a; unfold sTry at this; rw [e] at this; exact this
      by_cases c1 : (ok x.cls && x.arg.isNone && free ρ1[i]?) = true
      case neg => have := h 0; rw [if_neg c1] at this; exact this.elim
      have c2 := c1
      rw [Bool.and_eq_true, Bool.and_eq_true] at c2
      obtain ⟨⟨o1, o2⟩, o3⟩ := c2
      have ea : x.arg = none := by
        cases q : x.arg with
        | none => rfl
        | some d => rw [q] at o2; cases o2
      refine ⟨true, by rw [ec]; exact he _ o1, fun _ a hn => ⟨x.cls, o1, ec, ed ea, ?_⟩, fun z => nomatch z⟩
      have h := h a
      rw [if_pos c1] at h
      obtain ⟨R2, x2⟩ := R1.wo.setCl (i := i) (v := .ref a) (d := opD x.cls a) o3 .opq
      refine ⟨_, R2, ?_⟩
      have x3 := x1.trans x2
      cases e3 : ms x.cls a (ρ1.set i (.cl (opD x.cls a))) with
      | no => rw [e3] at h; exact h
      | er y ρ3 => rw [e3] at h; exact ErS.back h x3
      | ok f ρ3 =>
        rw [e3] at h
        cases f with
        | rt op => exact fun σ4 v H4 p => h σ4 v H4 (p.back x3)
        | nx =>
          intro σ4 H4 R4 x4
          by_cases l : isLe ρ3[i]? = true
          · have h : GS X.K F H σ ρ D (if isLe ρ3[i]? = true then .no else .ok .nx (ρ3.set i .un)) := h
            rw [if_pos l] at h; exact h.elim
          · have h : GS X.K F H σ ρ D (if isLe ρ3[i]? = true then .no else .ok .nx (ρ3.set i .un)) := h
            rw [if_neg l] at h
            exact h _ H4 (R4.un i none) ((x3.trans x4).un i none)
        | bk =>
          intro σ4 H4 R4 x4
          by_cases l : isLe ρ3[i]? = true
          · have h : GS X.K F H σ ρ D (if isLe ρ3[i]? = true then .no else .ok .bk (ρ3.set i .un)) := h
            rw [if_pos l] at h; exact h.elim
          · have h : GS X.K F H σ ρ D (if isLe ρ3[i]? = true then .no else .ok .bk (ρ3.set i .un)) := h
            rw [if_neg l] at h
            exact h _ H4 (R4.un i none) ((x3.trans x4).un i none)
        | ct =>
          intro σ4 H4 R4 x4
          by_cases l : isLe ρ3[i]? = true
          · have h : GS X.K F H σ ρ D (if isLe ρ3[i]? = true then .no else .ok .ct (ρ3.set i .un)) := h
            rw [if_pos l] at h; exact h.elim
          · have h : GS X.K F H σ ρ D (if isLe ρ3[i]? = true then .no else .ok .ct (ρ3.set i .un)) := h
            rw [if_neg l] at h
            exact h _ H4 (R4.un i none) ((x3.trans x4).un i none)
end
end Vx
set_option maxHeartbeats 2000000
namespace Vx
open PySem PySem.Spec L2
section
variable {X : Cx} {pins : List (Addr × Obj)} {σ : St} {H : Hp} {s : Shared} {T : List (Addr × Str)} {c P : Addr} {params : Arguments} {body : Expr} {scope : Scope} {pos : Pos}
/-- what is asked of the maker -/
structure LamF (X : Cx) (T : List (Addr × Str)) (c P : Addr) (params : Arguments) (scope : Scope) : Prop where
  tab : LamX.TabB X.base X.mg c P
  code : X.env.code = .ref c
  mem : (P, X.env.qual ++ "<lambda>") ∈ T
  one : ∀ p ∈ T, p.1 = P → p.2 = X.env.qual ++ "<lambda>"
  dflt : defaultsOf params X.env = ([], [])
  sc : LamX.LamS X.env.scope scope
abbrev lamOF (X : Cx) (params : Arguments) (body : Expr) (scope : Scope) (pm ctv : Value) (c' : Addr) : Obj :=
  PySem.W.kla_obj "<lambda>" (X.env.qual ++ "<lambda>") params body scope (cloFrom X.env.cells scope.names []) pm c' ctv
theorem frs_new (I : Inv X pins σ H s) {f : Addr} (hf : s.heap.objs.size ≤ f) : f ∉ frs X.stack := by
  intro z
  have hl := I.lt
  rcases List.mem_cons.mp (I.stkSub f z) with e | e
  · subst e; exact absurd (Nat.lt_of_lt_of_le hl hf) (Nat.lt_irrefl _)
  · exact I.nofs hf e
theorem lam_newF {E : Value → Shared → Prop} {Q : Value → Shared → Prop} (M : LamF X T c P params scope) (I : Inv X pins σ H s) (hT : LamX.Tabs T H)
    (h : ∀ (f c' : Addr) (pm ctv : Value) (H1 : Hp) (s' : Shared), Inv X pins σ H1 s' → LamX.ExtN H H1 → (∀ b, H b ≠ none → H1 b ≠ none) → LamX.Tabs T H1 → s'.heap.get? f = some (lamOF X params body scope pm ctv c') → H1 f = none → f ∉ frs X.stack →
      H1 c' = some (LamX.CodeO c' (X.env.qual ++ "<lambda>")) → Q (.ref f) s') :
    wpAny (model X.prog X.w) X.A (eval (.Lambda params body scope pos) X.env) Q E s := by
  have hcl := closure_ok (M.sc.has I.ok)
  obtain ⟨ps, hP, ht, ha⟩ := hT _ M.mem
  have atP : s.heap.get? P = some { cls := .none, data := .fields ps } := I.hok P _ hP
  have gN : s.heap.Ns mainGlobals X.mg := I.mod.glob.keeps I.bk
  have cd := M.tab.code.keeps I.bk
  have bm : s.heap.BuiltinsAt X.mg P := M.tab.bm.keeps I.bk
  refine PySem.W.kla_eval M.dflt ?_
  rcases hc : codeAmong pos ps.toList with _ | cv
  · refine PySem.W.kla_makeFunction (mg := X.mg) (c := c) (P := P) (ps := ps) hcl I.ok.glob gN M.code cd atP ht hc M.tab.gP bm fun c' ctv h' tk hx hge hlt hrec htb => ?_
    obtain ⟨c2, oc, vs, t, e2, hoc, hd, hv⟩ := hrec
    cases e2
    have nC : H c' = none := I.hok.fresh hge
    have nP : P ≠ c' := ne_of_none hP nC
    have hsz : s.heap.objs.size ≤ h'.objs.size := Nat.le_trans hge (Nat.le_of_lt hlt)
    let ps' := ps ++ #[PySem.rawInt pos.line, PySem.rawInt pos.col, Value.ref c']
    have J := LamX.inv_table (q := X.env.qual ++ "<lambda>") (t' := tk) (more := #[PySem.rawInt pos.line, PySem.rawInt pos.col, Value.ref c']) (h' := h'.push (lamOF X params body scope ((X.mg "__name__").getD .none) ctv c')) I hP
      (fun b o hb e => Heap.get?_push_of_some _ (hx b o hb e)) (Heap.get?_push_of_some _ htb) hge ⟨oc, vs, t, Heap.get?_push_of_some _ hoc, hd, hv⟩
    have other : ∀ b, b ≠ P → b ≠ c' → upd (upd H P (.tbl ps')) c' (LamX.CodeO c' (X.env.qual ++ "<lambda>")) b = H b := fun b hb hn => by
      rw [upd_ne hn, upd_ne hb]
    have oc' : ∀ b, H b ≠ none → b ≠ c' := fun b hn z => hn (z ▸ nC)
    have hE : LamX.ExtN H (upd (upd H P (.tbl ps')) c' (LamX.CodeO c' (X.env.qual ++ "<lambda>"))) := fun b o e n => by
      rw [other b (fun z => n ps (Option.some.inj (e.symm.trans (z ▸ hP)))) (oc' b (by rw [e]; exact fun z => nomatch z))]
      exact e
    refine h _ c' _ ctv _ _ J hE (fun b hb => ?_) (fun q hq => ?_) (Heap.get?_push_size _ rfl) ?_ (frs_new I hsz) upd_same
    · by_cases z : b = P
      · rw [z, upd_ne nP, upd_same]; exact fun z => nomatch z
      · rw [other b z (oc' b hb)]; exact hb
    · obtain ⟨qs, a1, a2, a3⟩ := hT q hq
      have qc : q.1 ≠ c' := oc' _ (by rw [a1]; exact fun z => nomatch z)
      by_cases z : q.1 = P
      · have eq : q.2 = X.env.qual ++ "<lambda>" := M.one q hq z
        refine ⟨ps', by rw [z, upd_ne nP, upd_same], ?_, fun p' cv hcv => ?_⟩
        · show TriplesOk (ps ++ #[PySem.rawInt pos.line, PySem.rawInt pos.col, Value.ref c']).toList
          rw [show (ps ++ #[PySem.rawInt pos.line, PySem.rawInt pos.col, Value.ref c']).toList = ps.toList ++ [PySem.rawInt pos.line, PySem.rawInt pos.col, Value.ref c'] by simp]
          exact PySem.TriplesOk_snoc _ _ _ _ ht
        · rw [show ps'.toList = ps.toList ++ [PySem.rawInt pos.line, PySem.rawInt pos.col, Value.ref c'] by simp [ps']] at hcv
          rw [eq]
          rcases LamX.among_app _ ht hcv with y | y
          · obtain ⟨c0, e1, e2⟩ := ha p' cv y
            exact ⟨c0, e1, hE _ _ e2 LamX.codeO_ne⟩
          · exact ⟨c', y, upd_same⟩
      · refine ⟨qs, by rw [other _ z qc]; exact a1, a2, fun p' cv hcv => ?_⟩
        obtain ⟨c0, e1, e2⟩ := a3 p' cv hcv
        exact ⟨c0, e1, hE _ _ e2 LamX.codeO_ne⟩
    · have n1 : h'.objs.size ≠ c' := (Nat.ne_of_lt hlt).symm
      have n2 : h'.objs.size ≠ P := (Nat.ne_of_lt (Nat.lt_of_lt_of_le (Heap.lt_size atP) hsz)).symm
      rw [upd_ne n1, upd_ne n2]
      exact I.hok.fresh hsz
  · obtain ⟨c', e, hco⟩ := ha pos cv hc
    subst e
    refine PySem.W.kla_makeFunctionHit (mg := X.mg) (c := c) (P := P) (ps := ps) hcl I.ok.glob gN M.code cd atP ht hc bm fun ctv h' tk hx hsz => ?_
    exact h _ c' _ ctv H _ (I.kept fun b o e => Heap.get?_push_of_some _ (hx b o e)) (LamX.ExtN.refl H) (fun _ z => z) hT (Heap.get?_push_size _ rfl) (I.hok.fresh hsz) (frs_new I hsz) hco
end
/-- x() in the def Z, x the lambda that X made: what it lets out is taken at Z's slots -/
theorem act_at {X : Cx} {pins : List (Addr × Obj)} {σ : St} {H : Hp} {s : Shared} {Z : Cx} {f c' : Addr} {pm ctv : Value} {params : Arguments} {body : Expr} {scope : Scope} {k i : Nat} {a : Str} {W : WX} {tb : XK → TE} {p1 p2 : Pos}
    (I : Inv X pins σ H s) (L : LamX.LamS X.env.scope scope) (hf : s.heap.get? f = some (lamOF X params body scope pm ctv c')) (hfn : H f = none) (hfr : f ∉ frs X.stack)
    (hbind : bindArgs (PySem.W.kla_fn "<lambda>" (X.env.qual ++ "<lambda>") params body scope (cloFrom X.env.cells scope.names []) pm (.ref c') ctv) ⟨[], []⟩ = pure [])
    (hp : Z.prog = X.prog) (hw : Z.w = X.w) (hK : Z.K = X.K) (hmg : Z.mg = X.mg) (hba : Z.base = X.base) (hs0 : Z.s_0 = s) (hH0 : Z.H_0 = H) (hex : Z.ex = []) (hou : Z.outer = X.stack)
    (tk : Takes Z W) (hrg : RoomG (k + 1) Z.A)
    (hbody : ∀ (A : Around) (outer : List Env) (s : Shared) (H : Hp) (E : XK), RoomG k (A.deeper (LamX.lamEnv X scope s.heap.objs.size f c')) → PE (LamX.lamCx X A outer s H E scope f c') body (tb E))
    (hN : Z.N[i]? = some a) (hv : Vis Z.env.scope a) (hd : (a == ("__debug__" : Str)) = false := by decide) (hcd : (a == ("__classdict__" : Str)) = false := by decide) :
    PE Z (.Call (.Name a p1) [] [] p2) (fun σZ HZ Q => σZ[i]? = some (some (.ref f)) ∧ HZ c' = some (LamX.CodeO c' (X.env.qual ++ "<lambda>")) ∧ tb (WE W σZ) σ HZ Q) := by
  have hr := hrg.room
  refine ⟨fun pinsZ sZ σZ HZ Q IZ ⟨hs, hc, ht⟩ => ?_⟩
  have name := (pe_var (pos := p1) (i := i) hN hv hd hcd).run pinsZ sZ σZ HZ (fun v H1 => v = .ref f ∧ H1 = HZ) IZ ⟨.ref f, hs, rfl, rfl⟩
  refine wpAny_Call_Name_kw (thn name fun u s1 ⟨v, H1, I1, r1, ev, eH⟩ => ?_)
  subst ev eH
  obtain rfl : u = Value.ref f := r1
  have un := I1.base
  rw [hs0, hH0, hex] at un
  have of1 : s1.heap.get? f = some (lamOF X params body scope pm ctv c') := un.keep f _ hf hfn (by show f ∉ frs Z.outer; rw [hou]; exact hfr) (fun z => nomatch z)
  refine PySem.W.callWith_F0 (first := []) ⟨_, _, _, _, of1⟩ ?_
  obtain ⟨⟨oc, vs, t, hoc, hdc, hvc⟩, _, _⟩ := I1.hok c' _ hc
  have run : codeAny (model Z.prog Z.w) Z.A (.call (.ref f) ⟨[], []⟩) (CR (L2.CX Z.prog Z.w) Z.stack Z.prog Z.w H1 s1 Q (WE W σZ)) s1 := by
    refine PySem.W.kla_callFunE hr.depth of1 rfl L.co L.gen rfl ⟨c', oc, vs, t, rfl, hoc, hdc, hvc⟩ ?_
    rw [hbind]
    refine wpAny_pure (wpAny_newFunctionEnv (fun y hy => (L.own y hy).2) (fun y hy => absurd hy (by simp)) (fun h₁ hns hsb => ⟨I1.nolimit.fresh _ hsb, ?_⟩) L.kind)
    have kp : ∀ b o, s1.heap.get? b = some o → h₁.get? b = some o := by
      intro b o e
      exact hsb.extBut b o (Nat.ne_of_lt (Heap.lt_size e)) (Heap.get?_push_of_some _ e)
    have e0 : Env0 X.prog X.w X.K X.mg X.base Z.A Z.stack s1 H1 := by rw [← hp, ← hw, ← hK, ← hmg, ← hba]; exact I1.env0
    have un2 : Un (frs X.stack) [] H H1 s.heap s1.heap := by
      have := un
      rwa [show Z.fs = frs X.stack by show frs Z.outer = _; rw [hou]] at this
    have J := LamX.lam_start2 (A := Z.A) (outer := Z.stack) (E := WE W σZ) (f := f) (c' := c') (tk := s1.toks + ([] : List (Str × Value)).length) I L e0 hr.hd un2 hns kp
    rw [hp, hw]
    show codeAny _ _ (.expr body (LamX.lamEnv X scope s1.heap.objs.size f c')) _ _
    have rb := (hbody Z.A Z.stack s1 H1 (WE W σZ) ⟨hr.deeper _, hrg.gd⟩).run [] _ _ H1 Q J ht
    refine PySem.W.kla_codeExpr (wpAny_mono rb (fun v s' hq => ?_) fun e s' hq => hq)
    obtain ⟨w', H', J', rv, q⟩ := hq
    exact ⟨w', H', J'.os, J'.bare, J'.base, J'.hok, rv, q⟩
  refine wpAny_call (codeAny_mono run fun r s' hq => ?_)
  cases r with
  | error e => exact passAt tk σZ pinsZ H1 s1 e s' I1 hq
  | ok fl => cases fl with
    | ret u => exact I1.after hq
    | _ => exact False.elim hq
end Vx
set_option maxHeartbeats 2000000
namespace Vx
open PySem PySem.Spec L2
abbrev wCx (P : Program) (w : World) (K : PySem.W.Frag) (mg : Str → Option Value) (base : Heap) (Ng : List Str) (x : Str) (sg : Scope) (g : Addr) (cdg : Value) (A : Around) (outer : List Env) (s : Shared) (H : Hp) : Cx :=
  cxOf (L2.CX P w) P w K mg base Ng x sg g cdg A outer s H (fun _ _ _ => False)
/-- an expression where nothing is pending -/
def liftE0 (K : PySem.W.Frag) (F : Fc) (m : M Op) : TE := fun σ H Q => ∃ ρ, Rel K F noT H σ ρ ∧ GE K F noT H σ ρ Q (m ρ)
abbrev QE0 (X : Cx) (F : Fc) (e : Expr) (m : M Op) : Prop := PE X e (liftE0 X.K F m)
section
variable {X : Cx} {F : Fc} {e : Expr} {me : M Op} {pos : Pos}
theorem qs_expr0 (he : QE0 X F e me) (hs : swapsWith e none pos.line X.env = pure false := by rfl) : QS X F (.Expr e pos) (sDrop me) := by
  refine (ps_expr he hs).imp fun D σ H ⟨ρ, R, h⟩ => ⟨ρ, R, ?_⟩
  unfold sDrop at h
  cases e1 : me ρ with
  | no => rw [e1] at h; exact h.elim
  | er x ρ' => rw [e1] at h; exact ErS.toP h
  | ok x ρ1 =>
    rw [e1] at h
    exact fun v H1 p => h σ H1 p.back p.ext
theorem qs_ret0 (he : QE0 X F e me) : QS X F (.Return (some e) pos) (sRet me) := by
  refine (ps_ret he).imp fun D σ H ⟨ρ, R, h⟩ => ⟨ρ, R, ?_⟩
  unfold sRet at h
  cases e1 : me ρ with
  | no => rw [e1] at h; exact h.elim
  | er x ρ' => rw [e1] at h; exact ErS.toP h
  | ok x ρ1 =>
    rw [e1] at h
    exact fun v H1 p => h σ v H1 ⟨p.rel, p.ext, p.val, p.new⟩
end
/-- the body goes as its mirror, whatever the thunk comes to -/
def WordOk (P : Program) (w : World) (K : PySem.W.Frag) (mg : Str → Option Value) (base : Heap) (Ng : List Str) (x : Str) (sg : Scope) (g : Addr) (cdg : Value) (bg : List Stmt) (a : Str) (cn : Str → Addr) (tb : List (Addr × Str)) (k : Nat) (m : Addr → Th → Addr → M Fl) : Prop :=
  ∀ (A : Around) (outer : List Env) (s : Shared) (H : Hp) (F : Fc) (f : Addr) (th : Th), RoomG k (A.deeper (PyProof.Rows.envOfC x sg s.heap.objs.size g cdg)) → F.cn = cn → F.tb = tb → Takes (wCx P w K mg base Ng x sg g cdg A outer s H) F.W →
    (∀ (W : WX) (pn : List (Addr × Obj)) (xe : Value → Shared → Prop) (p1 p2 : Pos), Takes ((wCx P w K mg base Ng x sg g cdg A outer s H).tr pn xe) W → QE0 ((wCx P w K mg base Ng x sg g cdg A outer s H).tr pn xe) { F with W := W } (.Call (.Name a p1) [] [] p2) (mAct 0 f th)) →
    PSs (wCx P w K mg base Ng x sg g cdg A outer s H) bg (liftSA K F (m f th))
/-- what the def gives -/
def gWord (n : Nat) (m : Addr → Th → Addr → M Fl) (f a : Addr) (th : Th) : FR := runD [.pl] n (m f th a) [opD "fn" f]
/-- what a lambda sees: own lists are lent to be read -/
def loS : Sl → Sl
  | .ow d => .bo d
  | .le d => .bo d
  | s => s
def loA (ρ : Ev) : Ev := ρ.map loS
/-- x(lambda: e): the def's answer to what e comes to -/
def mWord (w : Th → FR) (me : M Op) : M Op := fun ρ => match mK me (loA ρ) with
  | .ok d _ => (match w (.ok d) with
    | .ok b d' [] => .ok (if b = true then .fr d' else .val d') ρ
    | _ => .no)
  | .er x _ => (match w (.er x) with
    | .ok b d' [] => .ok (if b = true then .fr d' else .val d') ρ
    | _ => .no)
  | .no => .no
section
variable {K : PySem.W.Frag} {F : Fc} {T : Fo} {H H' : Hp} {σ : St} {ρ : Ev}
theorem Rel.ownN (R : Rel K F T H σ ρ) {b : Addr} (ob : OS σ ρ b) {o : HO} (q : H b = some o) : nTb o = true := by
  obtain ⟨i, g1, g2⟩ := ob
  obtain ⟨d', z | z⟩ := ownS_cases g1
  · obtain ⟨a, k1, k2, _⟩ := R.ow i d' z
    rw [g2] at k1; cases k1
    cases d' <;> first | exact k2.elim | (obtain ⟨_, k3, _⟩ := k2; rw [q] at k3; cases k3; rfl)
  · obtain ⟨a, _, k1, k2, _⟩ := R.le i d' z
    rw [g2] at k1; cases k1
    cases d' <;> first | exact k2.elim | (obtain ⟨_, k3, _⟩ := k2; rw [q] at k3; cases k3; rfl)
/-- the heap grows, tables change; new objects are forbidden -/
theorem Rel.later (R : Rel K F T H σ ρ) (ex : ∀ b o, H b = some o → nTb o = true → H' b = some o) (dm : ∀ b, H b ≠ none → H' b ≠ none) (tb : LamX.Tabs F.tb H') {B : Fo} (hB : ∀ b, B b → H b = none ∧ H' b ≠ none) : Rel K F (fun b => T b ∨ B b) H' σ ρ := by
  refine R.to ⟨fun b o q t _ => ex b o q t, fun b z => ?_, dm⟩ (fun b ob o q => ex b o q (R.ownN ob q)) (fun b ob z => ?_) (fun b q => ?_) (fun b o _ t _ q => ex b o q t) dm fun _ => tb
  · rcases z with z | (z | z) | z
    · exact .inl (.inl z)
    · exact .inl (.inr (.inl z))
    · exact .inr (hB b z).1
    · exact .inl (.inr (.inr z))
  · obtain ⟨_, n, o, e⟩ := R.os ob
    rcases z with z | z
    · exact n z
    · rw [(hB b z).1] at e; cases e
  · rcases q with q | q | q
    · exact dm b (R.tdom b (.inl q))
    · exact dm b (R.tdom b (.inr q))
    · exact (hB b q).2
theorem extN_n {H H1 : Hp} (e : LamX.ExtN H H1) : ∀ b o, H b = some o → nTb o = true → H1 b = some o := fun b o h t => e b o h fun ps z => by rw [z] at t; cases t
end
section
variable {K : PySem.W.Frag} {F : Fc} {T : Fo} {H H' : Hp} {σ : St} {ρ : Ev}
theorem lo_get {i : Nat} : (loA ρ)[i]? = ρ[i]?.map loS := by unfold loA; rw [List.getElem?_map]
theorem lo_cl {i : Nat} {d : D} (h : (loA ρ)[i]? = some (.cl d)) : ρ[i]? = some (.cl d) := by
  rw [lo_get] at h
  cases e : ρ[i]? with
  | none => rw [e] at h; cases h
  | some s => rw [e] at h; cases s <;> cases h; rfl
theorem lo_bo {i : Nat} {d : D} (h : (loA ρ)[i]? = some (.bo d)) : ρ[i]? = some (.bo d) ∨ ρ[i]? = some (.ow d) ∨ ρ[i]? = some (.le d) := by
  rw [lo_get] at h
  cases e : ρ[i]? with
  | none => rw [e] at h; cases h
  | some s => rw [e] at h; cases s <;> cases h <;> simp
theorem lo_own {i : Nat} : OwnS (loA ρ)[i]? = false := by
  rw [lo_get]
  cases e : ρ[i]? with
  | none => rfl
  | some s => cases s <;> rfl
theorem lo_os {b : Addr} (h : OS σ (loA ρ) b) : False := by
  obtain ⟨i, h1, _⟩ := h
  rw [lo_own] at h1; cases h1
/-- a lambda's constants -/
abbrev fcL (F : Fc) (A : Fo) (H : Hp) (W : WX) : Fc := { B := A, lt := fun _ => none, H0 := H, W := W, cn := F.cn, tb := F.tb }
theorem Rel.lam (R : Rel K F T H σ ρ) (W : WX) : Rel K (fcL F (Fb F T σ ρ) H W) noT H σ (loA ρ) := by
  have nl : ∀ b, ¬ (fcL F (Fb F T σ ρ) H W).L b := fun b ⟨_, z⟩ => nomatch z
  have fb : ∀ b, Fb (fcL F (Fb F T σ ρ) H W) noT σ (loA ρ) b → Fb F T σ ρ b := fun b z => by
    rcases z with z | z | z
    · exact z
    · exact z.elim
    · exact (lo_os z).elim
  have le : Le (Fb F T σ ρ) H (Fb (fcL F (Fb F T σ ρ) H W) noT σ (loA ρ)) H := Le.less fb
  have ob : ∀ {a : Addr} {d : D}, OB K (Fb F T σ ρ) H a d → BO K (fcL F (Fb F T σ ρ) H W) (Fb (fcL F (Fb F T σ ρ) H W) noT σ (loA ρ)) H a d := fun {a d} q => by
    cases d <;> first
      | exact q.elim
      | (obtain ⟨xs, h, q⟩ := q; exact ⟨xs, .inl ⟨.inl h, nl a⟩, RDs.mono le _ _ q⟩)
      | (obtain ⟨xs, h, q⟩ := q; exact ⟨xs, h, nl a, RKs.mono le _ _ q⟩)
  refine ⟨by unfold loA; rw [List.length_map]; exact R.len, fun i d e => ?_, fun i d e => ?_, fun i d e => ?_, fun i d e => ?_, fun i j b h1 => ?_, fun b o h _ _ => h, fun b h => h, fun b h => h.elim R.fbd fun z => z.elim, R.tabs⟩
  · obtain ⟨v, q1, q2⟩ := R.cl i d (lo_cl e)
    exact ⟨v, q1, RD.mono le _ _ q2⟩
  · rcases lo_bo e with e | e | e
    · obtain ⟨a, q1, q2⟩ := R.bo i d e
      refine ⟨a, q1, ?_⟩
      cases d <;> first
        | exact q2.elim
        | (obtain ⟨xs, h, q⟩ := q2
           refine ⟨xs, ?_, RDs.mono le _ _ q⟩
           rcases h with ⟨h | ⟨o, h⟩, n⟩ | h
           · exact .inl ⟨.inl (R.keep _ _ h rfl n), nl a⟩
           · exact .inl ⟨.inr ⟨o, R.keep _ _ h rfl n⟩, nl a⟩
           · exact .inr h)
        | (obtain ⟨xs, h, n, q⟩ := q2; exact ⟨xs, R.keep _ _ h rfl n, nl a, RKs.mono le _ _ q⟩)
    · obtain ⟨a, q1, q2, _⟩ := R.ow i d e
      exact ⟨a, q1, ob q2⟩
    · obtain ⟨a, _, q1, q2, _⟩ := R.le i d e
      exact ⟨a, q1, ob q2⟩
  · have := lo_own (ρ := ρ) (i := i); rw [e] at this; cases this
  · have := lo_own (ρ := ρ) (i := i); rw [e] at this; cases this
  · rw [lo_own] at h1; cases h1
end
section
variable {X : Cx} {F : Fc}
theorem qe_word {x a : Str} {g c P : Addr} {k n : Nat} {pg params : Arguments} {bg : List Stmt} {sg scope : Scope} {fd : FuncData} {Ng : List Str} {body : Expr} {me : M Op} {m : Addr → Th → Addr → M Fl} {w : Th → FR} {p lpos pos : Pos}
    (FD : FunD X.K x x pg bg sg [] [] g fd) (hg : Gl X x) (hm : X.mg x = some (.ref g)) (hk : PySem.W.keepIn X.K (.ref g) = true) (hb : L2.Binds X.K fd [a] []) (Sg : FnScope Ng [a] sg) (hNg : Ng[0]? = some a) (hva : Vis sg a) (hn : Ng.length - 1 = n) (hN1 : 1 ≤ Ng.length)
    (hW : ∀ cdv, cdv = fd.code → WordOk X.prog X.w X.K X.mg X.base Ng x sg g cdv bg a F.cn F.tb (k + 1) m) (hw : ∀ f a th, gWord n m f a th = w th)
    (M : LamF X F.tb c P params scope) (hrg : RoomG (k + 2) X.A)
    (hbind : ∀ (q : Str) (cl : List (Str × Addr)) (pm cv ctv : Value), bindArgs (PySem.W.kla_fn "<lambda>" q params body scope cl pm cv ctv) ⟨[], []⟩ = pure [])
    (hbody : ∀ (A : Around) (outer : List Env) (s : Shared) (H : Hp) (E : XK) (f c' : Addr) (G : Fc), RoomG k (A.deeper (LamX.lamEnv X scope s.heap.objs.size f c')) → G.cn = F.cn → G.tb = F.tb → Takes (LamX.lamCx X A outer s H E scope f c') G.W → QE (LamX.lamCx X A outer s H E scope f c') G body me)
    (hdb : (x == ("__debug__" : Str)) = false := by decide) (hd : (a == ("__debug__" : Str)) = false := by decide) (hcd : (a == ("__classdict__" : Str)) = false := by decide) :
    QE X F (.Call (.Name x p) [.Lambda params body scope lpos] [] pos) (mWord w me) := by
  have hr := hrg.room
  refine ⟨fun pins s σ H Q I ⟨T, ρ, R, h⟩ => ?_⟩
  obtain ⟨oc, od, dV, kV, doc, pm0, an, cdv, ct, osl, rfl, lk, hcg, _, _⟩ := FD.ex
  refine wpAny_Call_Name_kw (ld_glob I hg hm ?_ hdb)
  refine PySem.W.callWith_K (h₀ := X.base) I.ok.mod.kin hk ?_ (by rfl) (by rfl)
  refine Calls.spliced_cons (x := eval (.Lambda params body scope lpos) X.env) (rest := backTo pos (starEach [] X.env)) (lam_newF M I R.tabs fun f c' pm ctv H1 s' I1 eN dm T1 hf hfn hfr hco => ?_)
  refine Calls.spliced_nil ⟨I1.kIn, ?_⟩
  have R1 : Rel X.K F T H1 σ ρ := (R.later (B := fun _ => False) (extN_n eN) dm T1 fun _ z => z.elim).less fun _ z => .inl z
  have x1 : Ext σ ρ H σ ρ H1 := ⟨fun b o q t _ => extN_n eN b o q t, fun _ z => .inl z, dm⟩
  -- what the lambda comes to
  obtain ⟨th, d', bb, hth, hwth, hQ⟩ : ∃ (th : Th) (d' : D) (bb : Bool), (match th with
      | .ok d => ∃ ρ1, mK me (loA ρ) = .ok d ρ1
      | .er x => ∃ ρ1, mK me (loA ρ) = .er x ρ1) ∧ w th = .ok bb d' [] ∧ GE X.K F T H σ ρ Q (.ok (if bb = true then .fr d' else .val d') ρ) := by
    unfold mWord at h
    cases e : mK me (loA ρ) with
    | no => rw [e] at h; exact h.elim
    | ok d ρ1 =>
      rw [e] at h
      dsimp only at h
      cases ew : w (.ok d) with
      | no => rw [ew] at h; exact h.elim
      | er y os => rw [ew] at h; exact h.elim
      | ok b d' os =>
        rw [ew] at h
        cases os with
        | cons _ _ => exact h.elim
        | nil => exact ⟨.ok d, d', b, ⟨ρ1, rfl⟩, ew, h⟩
    | er y ρ1 =>
      rw [e] at h
      dsimp only at h
      cases ew : w (.er y) with
      | no => rw [ew] at h; exact h.elim
      | er y os => rw [ew] at h; exact h.elim
      | ok b d' os =>
        rw [ew] at h
        cases os with
        | cons _ _ => exact h.elim
        | nil => exact ⟨.er y, d', b, ⟨ρ1, rfl⟩, ew, h⟩
  have hA : ∀ b, Fb F T σ ρ b → H1 b ≠ none := fun b z => R1.fbd z
  have args : ArgsR X.K (Fb F T σ ρ) (· ∈ ([] : List Addr)) H1 [.pl] [.ref f] [opD "fn" f] [] := .pl (.inl .opq) .nil
  let Fw : Fc := fcOf F.cn F.tb (Fb F T σ ρ) H1 [.pl] [.ref f] [] (fun _ _ _ => False)
  have nl : ∀ b, ¬ Fw.L b := fun b ⟨i, z⟩ => by
    have z : ltOf [.pl] [V.ref f] i = some b := z
    cases i with
    | zero => cases z
    | succ i => cases i <;> cases z
  have rc : codeAny (model X.prog X.w) X.A (.call (.ref g) ⟨[.ref f], []⟩) (CR (L2.CX X.prog X.w) X.stack X.prog X.w H1 s' Q (fun _ _ _ => False)) s' := by
    refine LamX.run_ofS (N := Ng) (ps := [a]) (us := [.ref f]) (vs := [.ref f]) lk hcg Sg hr I1.env0 (hb s' [.ref f] I1.kIn rfl) (.cons rfl .nil) rfl fun hr' => ?_
    refine ⟨_, hW cdv rfl X.A X.stack s' H1 Fw f th ⟨hr', hrg.gd⟩ rfl rfl (takes_of rfl rfl rfl rfl) (fun W pn xe p1 p2 tk => ?_), ?_⟩
    · -- the thunk is called
      refine (act_at (Z := (wCx X.prog X.w X.K X.mg X.base Ng x sg g cdv X.A X.stack s' H1).tr pn xe) (i := 0) (W := W) (tb := fun E σ' H' Q' => liftK X.K (fcL F (fun b => Fb F (fun b => T b ∨ (H1 b = none ∧ H' b ≠ none)) σ ρ b) H' fun c d _ H => E c d H) (mK me) σ' H' Q') I1 M.sc hf hfn hfr (hbind _ _ _ _ _) rfl rfl rfl rfl rfl rfl rfl rfl rfl tk ⟨hr', hrg.gd⟩ (fun A outer s H E hr2 => ?_) hNg hva hd hcd).imp fun σZ HZ QZ h => ?_
      · exact ⟨fun pins2 s2 σ2 H2 Q2 I2 h2 => (liftK_ (hbody A outer s H E f c' (fcL F (fun b => Fb F (fun b => T b ∨ (H1 b = none ∧ H2 b ≠ none)) σ ρ b) H2 fun c d _ H => E c d H) hr2 rfl rfl (takes_of rfl rfl rfl rfl))).run pins2 s2 σ2 H2 Q2 I2 h2⟩
      · obtain ⟨ρZ, RZ, h⟩ := h
        unfold mAct at h
        cases e0 : ρZ[0]? with
        | none => rw [e0] at h; exact h.elim
        | some s0 =>
          rw [e0] at h
          cases s0 with
          | cl d0 =>
            dsimp only at h
            by_cases ho : isOp "fn" f d0 = true
            case neg => rw [if_neg ho] at h; exact h.elim
            rw [if_pos ho] at h
            have := isOp_eq ho
            subst this
            obtain ⟨v, q1, q2⟩ := RZ.cl 0 _ e0
            have := opq_ref q2
            subst this
            have keep : ∀ b o, H1 b = some o → nTb o = true → HZ b = some o := fun b o q t => RZ.keep b o q t (nl b)
            refine ⟨q1, keep _ _ hco rfl, ?_⟩
            have R2 := R1.later (B := fun b => H1 b = none ∧ HZ b ≠ none) keep (fun b q => RZ.dom b q) RZ.tabs fun b z => z
            refine ⟨noT, loA ρ, R2.lam _, ?_⟩
            -- the thunk's end
            have back : ∀ {G : Fc} {T3 : Fo} {ρ3 : Ev} {H3 : Hp} (W' : WX), G.H0 = HZ → (∀ b, ¬ G.L b) → G.tb = F.tb → Rel X.K G T3 H3 σ ρ3 → Rel X.K { Fw with W := W' } noT H3 σZ ρZ ∧ Ext σZ ρZ HZ σZ ρZ H3 := fun {G T3 ρ3 H3} W' g1 g2 g3 R3 => by
              have k3 : ∀ b o, HZ b = some o → nTb o = true → H3 b = some o := fun b o q t => R3.keep b o (by rw [g1]; exact q) t (g2 b)
              have d3 : ∀ b, HZ b ≠ none → H3 b ≠ none := fun b q => R3.dom b (by rw [g1]; exact q)
              have t3 : LamX.Tabs Fw.tb H3 := by
                have := R3.tabs
                rwa [g3] at this
              exact ⟨((RZ.wo.wi W').later (B := fun _ => False) k3 d3 t3 fun _ z => z.elim).less fun _ z => .inl z, ⟨fun b o q t _ => k3 b o q t, fun _ z => .inl z, d3⟩⟩
            cases th with
            | ok d =>
              obtain ⟨ρ3, e3⟩ := hth
              rw [e3]
              intro v H3 R3 x3 r3
              obtain ⟨RB, xB⟩ := back (G := fcL F (fun b => Fb F (fun b => T b ∨ (H1 b = none ∧ HZ b ≠ none)) σ ρ b) HZ fun c d _ H => WE W σZ c d H) W rfl (fun b z => by obtain ⟨_, z⟩ := z; cases z) rfl R3
              refine h v H3 ⟨RB.less fun b z => z.elim id fun ⟨_, z, _⟩ => (nomatch z), xB, ?_, fun _ _ z => nomatch z⟩
              refine RD.mono (Le.less fun b z => ?_) _ _ r3
              -- what Fw forbids is forbidden to the lambda
              rcases z with z | z | z
              · exact .inl (z.1.imp id fun z => z.imp .inl id)
              · rcases z with z | ⟨_, z, _⟩
                · exact z.elim
                · cases z
              · obtain ⟨i, g1, g2⟩ := z
                obtain ⟨dd, g3 | g3⟩ := ownS_cases g1
                · obtain ⟨a3, k1, k2, _, _, k5⟩ := RZ.ow i dd g3
                  rw [g2] at k1; cases k1
                  obtain ⟨o, ho⟩ := k2.at
                  exact .inl (.inr (.inl (.inr ⟨k5, by rw [ho]; exact fun z => nomatch z⟩)))
                · obtain ⟨a3, k0, _⟩ := RZ.le i dd g3
                  exact absurd ⟨i, k0⟩ (nl a3)
            | er y =>
              obtain ⟨ρ3, e3⟩ := hth
              rw [e3]
              intro cv dd H3 R3 x3 k3
              obtain ⟨RB, xB⟩ := back (G := fcL F (fun b => Fb F (fun b => T b ∨ (H1 b = none ∧ HZ b ≠ none)) σ ρ b) HZ fun c d _ H => WE W σZ c d H) W rfl (fun b z => by obtain ⟨_, z⟩ := z; cases z) rfl R3
              exact h cv dd H3 RB xB k3
          | _ => exact h.elim
    · refine ⟨_, entry hA (fun _ z => nomatch z) List.nodup_nil args hN1 T1, fun e => ?_⟩
      refine exit_gs (σ := []) (ρ := []) hA (fun _ z => nomatch z) List.nodup_nil args hN1 T1 ?_
      have g := hw f e th
      unfold gWord at g
      rw [← hn] at g
      rw [show Ng.length - [Md.pl].length = Ng.length - 1 from rfl, g, hwth]
      intro v H3 lv _ rr
      have kp : ∀ b o, H1 b = some o → nTb o = true → H3 b = some o := fun b o q t => lv.kept b o q t fun z => nomatch z
      have x2 : Ext σ ρ H σ ρ H3 := x1.trans ⟨fun b o q t _ => kp b o q t, fun _ z => .inl z, lv.dom⟩
      refine hQ v H3 ?_
      cases bb with
      | false =>
        have R2 := (R1.later (B := fun _ => False) kp lv.dom lv.tabs fun _ z => z.elim).less (T' := T) fun _ z => .inl z
        exact ⟨R2.less fun b z => z.elim id fun ⟨_, z, _⟩ => (nomatch z), x2, RD.mono (Le.less fun b z => z.imp id fun z => z.imp (fun z => z.elim id fun ⟨_, z, _⟩ => (nomatch z)) id) _ _ rr, fun _ _ z => nomatch z⟩
      | true =>
        obtain ⟨b, ev, hn3, ob⟩ := rr
        subst ev
        obtain ⟨o, ho⟩ := ob.at
        have R2 := R1.later (B := fun z => z = b) kp lv.dom lv.tabs fun z e => by subst e; exact ⟨hn3, by rw [ho]; exact fun z => nomatch z⟩
        have hnH : H b = none := by
          cases q : H b with
          | none => rfl
          | some o => exact absurd hn3 (dm b (by rw [q]; exact fun z => nomatch z))
        have tt : ∀ z, TTf T (.ref b) (.fr d') z → T z ∨ z = b := fun z q => q.imp id fun ⟨_, _, e⟩ => by cases e; rfl
        refine ⟨R2.less tt, x2, ⟨b, rfl, .inr ⟨d', rfl, rfl⟩, ob.mono (Le.less fun z q => ?_) (fun _ h => h), fun z => R1.tdom b (.inl z) hn3, R1.h0none hn3⟩, fun _ z _ e => by cases e; exact hnH⟩
        rcases q with q | q | q
        · exact .inl (.inl q)
        · exact (tt z q).imp (fun q => .inr (.inl q)) id
        · exact .inl (.inr (.inr q))
  refine wpAny_call (codeAny_mono rc fun r s2 hq => ?_)
  cases r with
  | error e => exact (cx_no hq).elim
  | ok fl => cases fl with
    | ret u => exact I1.after hq
    | _ => exact False.elim hq
end
end Vx
set_option maxHeartbeats 2000000
namespace Vx
open PySem PySem.Spec L2
/-- x.m(y): x of the kind tD -/
def mMt (tD : D → Bool) (f : D → D → Option Op) (mo ma : M Op) : M Op := fun ρ => (mo ρ).bind fun x ρ1 => if (match rd ρ1 x with
  | some d => tD d
  | none => false) = true then (ma ρ1).bind fun y ρ2 => opt ρ2 ((rd ρ2 x).bind fun a => (rd ρ2 y).bind fun b => f a b) else .no
def isLsD : D → Bool
  | .list _ => true
  | _ => false
@[simp] theorem ev_Mt (tD : D → Bool) (f : D → D → Option Op) (mo ma : M Op) (ρ : Ev) : mMt tD f mo ma ρ = (mo ρ).bind fun x ρ1 => if (match rd ρ1 x with
  | some d => tD d
  | none => false) = true then (ma ρ1).bind fun y ρ2 => opt ρ2 ((rd ρ2 x).bind fun a => (rd ρ2 y).bind fun b => f a b) else .no := rfl
@[simp] theorem isLsD_list (ds : List D) : isLsD (.list ds) = true := rfl
section
variable {K : PySem.W.Frag} {F : Fc} {σ : St} {H : Hp} {Q : VK} {mo ma : M Op}
theorem liftMt {Tn : String} {r : V → List V → Hp → VK → Prop} {f : D → D → Option Op} {tD : D → Bool} (hty : ∀ (A : Fo) (H : Hp) x a, RB K A H x a → tD a = true → tyV K Tn x H)
    (hf : P2 K (fun x y H Q => r x [y] H Q) f) (h : liftE K F (mMt tD f mo ma) σ H Q) : tBM K Tn r (liftE K F mo) (tCons (liftE K F ma) tNil) σ H Q := by
  obtain ⟨T, ρ, R, h⟩ := h
  refine ⟨T, ρ, R, ?_⟩
  unfold mMt at h
  cases e : mo ρ with
  | no => rw [e] at h; exact h.elim
  | er x ρ' => rw [e] at h; exact h
  | ok x ρ1 =>
    rw [e] at h
    intro v H1 p
    have h : GE K F T H σ ρ Q (if (match rd ρ1 x with
      | some d => tD d
      | none => false) = true then (ma ρ1).bind fun y ρ2 => opt ρ2 ((rd ρ2 x).bind fun a => (rd ρ2 y).bind fun b => f a b) else .no) := h
    cases e0 : rd ρ1 x with
    | none => rw [e0] at h; exact h.elim
    | some d0 =>
      rw [e0] at h
      dsimp only at h
      by_cases c : tD d0 = true
      case neg => rw [if_neg c] at h; exact h.elim
      rw [if_pos c] at h
      refine ⟨hty _ _ _ _ (p.val.rb p.rel e0) c, ?_⟩
      refine ⟨TTf T v x, ρ1, p.rel, ?_⟩
      cases eb : ma ρ1 with
      | no => rw [eb] at h; exact h.elim
      | er z ρ' =>
        rw [eb] at h
        exact ErP.back (show ErP K F T H σ ρ z ρ' from h) p.ext fun _ z => .inl z
      | ok y ρ2 =>
        rw [eb] at h
        intro u H2 p2
        have vx : VOk K F (TTf (TTf T v x) u y) H2 σ ρ2 v x := p.val.ext p.rel p2.ext (fun _ z => .inl z) p2.tt
        have h : GE K F T H σ ρ Q (opt ρ2 ((rd ρ2 x).bind fun a => (rd ρ2 y).bind fun b => f a b)) := h
        cases e1 : rd ρ2 x with
        | none => rw [e1] at h; exact h.elim
        | some a =>
          rw [e1] at h
          have h : GE K F T H σ ρ Q (opt ρ2 ((rd ρ2 y).bind fun b => f a b)) := h
          cases e2 : rd ρ2 y with
          | none => rw [e2] at h; exact h.elim
          | some b =>
            rw [e2] at h
            have h : GE K F T H σ ρ Q (opt ρ2 (f a b)) := h
            cases e3 : f a b with
            | none => rw [e3] at h; exact h.elim
            | some op =>
              rw [e3] at h
              exact hf _ H2 v u a b op Q (fun _ z => p2.rel.fbd z) (vx.rb p2.rel e1) (p2.val.rb p2.rel e2) e3 fun v' H' q => h v' H' (fin_ p2.rel (p.ext.trans p2.ext) (fun _ z => .inl (.inl z)) q)
theorem tyV_list {A : Fo} {x : V} {a : D} (h : RB K A H x a) (c : isLsD a = true) : tyV K "list" x H := by
  cases a with
  | list ds =>
    obtain ⟨p, xs, rfl, s, _⟩ := h.lst
    exact .inl ⟨rfl, xs, s⟩
  | _ => cases c
end
section
variable {X : Cx} {F : Fc} {o e : Expr} {mo me : M Op} {apos pos : Pos}
def rCntF (K : PySem.W.Frag) : V → List V → Hp → VK → Prop := fun x xs H Q => ∃ (a : Addr) (ys : List V) (y : V), x = V.ref a ∧ xs = [y] ∧ SqL K H a ys ∧ flatV y = true ∧ ys.all flatV = true ∧ Q (.int (ys.countP fun z => eqV z y : Nat)) H
theorem count_eqU {y : V} : ∀ {ys : List V} {us : List Value}, Vals ys us → ys.all flatV = true → us.countP (eqU y) = ys.countP fun z => eqV z y
  | _, _, .nil, _ => rfl
  | _, _, .cons r t, f => by
    rw [List.all_cons, Bool.and_eq_true] at f
    rw [List.countP_cons, List.countP_cons, count_eqU t f.2, eqU_of r f.1]
theorem mt_countF : MtR X "list.count" (rCntF X.K) := by
  intro pins s σ H x xs v us Q I rx rxs h
  obtain ⟨a, ys, y, rfl, rfl, hs, fy, fys, q⟩ := h
  cases rx
  obtain ⟨u, rfl, ru⟩ := rxs.one
  obtain ⟨its, rv, ⟨⟨cls, dd, data, sl⟩, n, ho, hc, hdn, hd⟩, hlen⟩ := I.list hs
  simp only at hc hd
  subst hc hd
  have cnt := count_eqU (y := y) rv fys
  refine call_meets PySem.F.slot_list_count ⟨_, ho, rfl⟩ PySem.F.entry_list_count (PySem.F.args_list_count_2 _ _)
    (SeqAt.list_countAt a its.toArray n dd sl u (eqU y)) ⟨ho, fun z hz => mem_eqAt ru fy rv fys z (by simpa using hz), ?_⟩
  refine ⟨.int (ys.countP fun z => eqV z y : Nat), H, I.tok _, ⟨s.toks, ?_⟩, q⟩
  show Value.int ((its.toArray.toList.countP (eqU y) : Nat) : Int) s.toks = _
  rw [show its.toArray.toList = its by simp, cnt]
def fCntB : D → D → Option Op
  | .list ds, .bool b => (boolsD ds).map fun bs => .val (.int (bs.count b : Nat))
  | _, _ => none
def fIdxB : D → D → Option Op
  | .list ds, .bool b => (boolsD ds).bind fun bs => (bs.idxOf? b).map fun i => .val (.int (i : Nat))
  | _, _ => none
@[simp] theorem fCntB_of (bs : List Bool) (b : Bool) : fCntB (.list (bs.map .bool)) (.bool b) = some (.val (.int (bs.count b : Nat))) := by
  show (boolsD (bs.map .bool)).map _ = _
  rw [boolsD_map]; rfl
theorem bools_of : ∀ {ds : List D} {bs : List Bool}, boolsD ds = some bs → ds = bs.map .bool
  | [], _, h => by cases h; rfl
  | .bool i :: ds, bs, h => by
    have h : (boolsD ds).map (i :: ·) = some bs := h
    cases e : boolsD ds with
    | none => rw [e] at h; cases h
    | some cs => rw [e] at h; cases h; rw [bools_of e]; rfl
  | .none :: _, _, h => by cases h
  | .int _ :: _, _, h => by cases h
  | .str _ :: _, _, h => by cases h
  | .list _ :: _, _, h => by cases h
  | .tuple _ :: _, _, h => by cases h
  | .dict _ :: _, _, h => by cases h
theorem flat_bls (bs : List Bool) : (bs.map V.bl).all flatV = true := by
  rw [List.all_eq_true]
  intro v hv
  obtain ⟨b, _, rfl⟩ := List.mem_map.mp hv
  rfl
theorem p_cntB : P2 X.K (fun x y H Q => rCntF X.K x [y] H Q) fCntB := by
  intro A H x y a b op Q hA ha hb e q
  cases a <;> try cases e
  cases b <;> try cases e
  rename_i ds b
  have e : (boolsD ds).map (fun bs => Op.val (.int (bs.count b : Nat))) = some op := e
  cases e1 : boolsD ds with
  | none => rw [e1] at e; cases e
  | some bs =>
    rw [e1] at e
    cases e
    have := bools_of e1
    subst this
    obtain ⟨p, xs, rfl, s, r⟩ := ha.lst
    have := RDs.of_bools r
    subst this
    refine ⟨p, _, y, rfl, rfl, s, by rw [hb.bl]; rfl, flat_bls bs, ?_⟩
    rw [hb.bl]
    have ec : (bs.map V.bl).countP (fun z => eqV z (V.bl b)) = bs.count b := by
      rw [List.countP_map, List.count]
      rfl
    rw [ec]
    exact q _ _ (pr_val (.int _))
theorem p_idxB : P2 X.K (fun x y H Q => rIndex X.K x [y] H Q) fIdxB := by
  intro A H x y a b op Q hA ha hb e q
  cases a <;> try cases e
  cases b <;> try cases e
  rename_i ds b
  have e : ((boolsD ds).bind fun bs => (bs.idxOf? b).map fun i => Op.val (.int (i : Nat))) = some op := e
  cases e1 : boolsD ds with
  | none => rw [e1] at e; cases e
  | some bs =>
    rw [e1] at e
    have e : (bs.idxOf? b).map (fun i => Op.val (.int (i : Nat))) = some op := e
    cases e2 : bs.idxOf? b with
    | none => rw [e2] at e; cases e
    | some i =>
      rw [e2] at e
      cases e
      have := bools_of e1
      subst this
      obtain ⟨p, xs, rfl, s, r⟩ := ha.lst
      have := RDs.of_bools r
      subst this
      have hi : bs.findIdx? (· == b) = some i := e2
      obtain ⟨h1, h2, h3⟩ := List.findIdx?_eq_some_iff_getElem.mp hi
      refine ⟨p, _, y, i, .bl b, rfl, rfl, s, by rw [hb.bl]; rfl, flat_bls bs, ?_, by rw [hb.bl]; show (b == b) = true; simp, fun m z hm hz => ?_, q _ _ (pr_val (.int _))⟩
      · rw [List.getElem?_map, List.getElem?_eq_getElem h1, eq_of_beq h2]; rfl
      · rw [List.getElem?_map, List.getElem?_eq_getElem (Nat.lt_trans hm h1)] at hz
        cases hz
        rw [hb.bl]
        have := h3 m hm
        show (bs[m] == b) = false
        simpa using this
theorem qe_cntB (ho : QE X F o mo) (he : QE X F e me) (hbase : attributeBase o "count" X.env (eval o X.env) = eval o X.env := by rfl)
    (hfew : ((backTo pos (starEach [e] X.env)).all (fun x => !x.1) && (backToKw pos (keywordEach [] X.env)).all (fun x => x.1.isSome) && decide ([e].length + ([] : List Keyword).length + (if ([] : List Keyword).isEmpty then 0 else 1) < 30)) = true := by rfl)
    (hline : (apos.endLine == pos.line) = true := by rfl) (hs : starEach [e] X.env = (false, eval e X.env) :: starEach [] X.env := by rfl) (hplain : (backTo pos (starEach [] X.env)).any (·.1) = false := by rfl) :
    QE X F (.Call (.Attribute o "count" apos) [e] [] pos) (mMt isLsD fCntB mo me) :=
  (pe_bm PySem.F.plainAttrs_list PySem.F.slot_list_count PySem.F.type_list_count mt_countF ho (pa_cons he pa_nil hs) hbase hfew hline hs hplain).imp fun _ _ _ h => liftMt (fun _ _ _ _ => tyV_list) p_cntB h
theorem qe_idxB (ho : QE X F o mo) (he : QE X F e me) (hbase : attributeBase o "index" X.env (eval o X.env) = eval o X.env := by rfl)
    (hfew : ((backTo pos (starEach [e] X.env)).all (fun x => !x.1) && (backToKw pos (keywordEach [] X.env)).all (fun x => x.1.isSome) && decide ([e].length + ([] : List Keyword).length + (if ([] : List Keyword).isEmpty then 0 else 1) < 30)) = true := by rfl)
    (hline : (apos.endLine == pos.line) = true := by rfl) (hs : starEach [e] X.env = (false, eval e X.env) :: starEach [] X.env := by rfl) (hplain : (backTo pos (starEach [] X.env)).any (·.1) = false := by rfl) :
    QE X F (.Call (.Attribute o "index" apos) [e] [] pos) (mMt isLsD fIdxB mo me) :=
  (pe_bm PySem.F.plainAttrs_list PySem.F.slot_list_index PySem.F.type_list_index mt_index ho (pa_cons he pa_nil hs) hbase hfew hline hs hplain).imp fun _ _ _ h => liftMt (fun _ _ _ _ => tyV_list) p_idxB h
end
def fIsE (t : Str) (a : Addr) (b : Bool) : D → Option Op := fun d => if isOp t a d = true then some (.val (.bool b)) else none
@[simp] theorem fIsE_op (t : Str) (a : Addr) (b : Bool) : fIsE t a b (opD t a) = some (.val (.bool b)) := by unfold fIsE; rw [isOp_op]; rfl
section
variable {X : Cx} {F : Fc} {e : Expr} {me : M Op} {p p2 pos : Pos} {a : Addr} {oe : Obj} {pn : List (Addr × Obj)} {t y : Str} {cv : Value} {b : Bool}
theorem p_isE {c : V} (hc : ∀ u, RelV c u → u = cv) (hk : PySem.W.kitOne X.K (.ref (F.cn t)) cv = some b) : P1 X.K (fun x H Q => rIsE X.K (F.cn t) a [x, c] H Q) (fIsE t a b) := by
  intro A H x d op Q hA hd e q
  unfold fIsE at e
  by_cases o : isOp t a d = true
  case neg => rw [if_neg o] at e; cases e
  rw [if_pos o] at e
  cases e
  have := isOp_eq o
  subst this
  have hx : x = .ref a := by
    cases hd with
    | rd h => exact opq_ref h
    | ob e h =>
      subst e
      obtain ⟨xs, h, q⟩ := h
      have := q.plain; cases this
    | ls e e2 => cases e2
  subst hx
  exact ⟨c, cv, b, rfl, hc, hk, q _ _ (pr_val (.bl _))⟩
/-- C an own class -/
theorem qe_isE (C : ExcC X.K (F.cn t)) (hz : Zc (.ref (F.cn t)) none oe) (hf : ∃ vs, oe.data = .fields vs) (hk : PySem.W.kitOne X.K (.ref (F.cn t)) (.ref (F.cn y)) = some b) (hg : Gl X "isinstance") (hm : X.mg "isinstance" = none) (hgy : Gl X y) (hmy : X.mg y = some (.ref (F.cn y)))
    (he : QE (X.suite a ((a, oe) :: pn)) F e me) (hv : bootBuiltins "isinstance" = some (.builtin "isinstance") := by rfl) (hdy : (y == ("__debug__" : Str)) = false := by decide)
    (hs1 : starEach [e, .Name y p2] X.env = (false, eval e X.env) :: starEach [.Name y p2] X.env := by rfl) (hs2 : starEach [.Name y p2] X.env = (false, eval (.Name y p2) X.env) :: starEach [] X.env := by rfl)
    (hpl : (backTo pos (starEach [.Name y p2] X.env)).any (·.1) = false := by rfl) : QE (X.suite a ((a, oe) :: pn)) F (.Call (.Name "isinstance" p) [e, .Name y p2] [] pos) (m1 (fIsE t a b) me) := by
  have a2 : PE (X.suite a ((a, oe) :: pn)) (.Name y p2) (tC (.ref (F.cn y))) := pe_glob (X := X.suite a ((a, oe) :: pn)) hgy hmy rfl hdy
  refine (pe_callB (X := X.suite a ((a, oe) :: pn)) (call_isE C hz hf) hg hm hv (pa_cons he (pa_cons a2 pa_nil hs2) hs1) (by decide) (by decide) hs1 hpl).imp fun σ H Q h => ?_
  exact lift1 (p_isE (X := X) (F := F) (c := .ref (F.cn y)) (fun u h => h) hk) h
/-- C a built-in class -/
theorem qe_isEB {T : String} (C : ExcC X.K (F.cn t)) (hz : Zc (.ref (F.cn t)) none oe) (hf : ∃ vs, oe.data = .fields vs) (hk : PySem.W.kitOne X.K (.ref (F.cn t)) (.type T) = some b) (hg : Gl X "isinstance") (hm : X.mg "isinstance" = none) (hgy : Gl X y) (hmy : X.mg y = none) (hvy : bootBuiltins y = some (.type T))
    (he : QE (X.suite a ((a, oe) :: pn)) F e me) (hv : bootBuiltins "isinstance" = some (.builtin "isinstance") := by rfl) (hdy : (y == ("__debug__" : Str)) = false := by decide) (hny : y ≠ "__name__" := by decide)
    (hs1 : starEach [e, .Name y p2] X.env = (false, eval e X.env) :: starEach [.Name y p2] X.env := by rfl) (hs2 : starEach [.Name y p2] X.env = (false, eval (.Name y p2) X.env) :: starEach [] X.env := by rfl)
    (hpl : (backTo pos (starEach [.Name y p2] X.env)).any (·.1) = false := by rfl) : QE (X.suite a ((a, oe) :: pn)) F (.Call (.Name "isinstance" p) [e, .Name y p2] [] pos) (m1 (fIsE t a b) me) := by
  have a2 : PE (X.suite a ((a, oe) :: pn)) (.Name y p2) (tC (.ty T)) := pe_bltn (X := X.suite a ((a, oe) :: pn)) hgy hmy hvy rfl hny hdy
  refine (pe_callB (X := X.suite a ((a, oe) :: pn)) (call_isE C hz hf) hg hm hv (pa_cons he (pa_cons a2 pa_nil hs2) hs1) (by decide) (by decide) hs1 hpl).imp fun σ H Q h => ?_
  exact lift1 (p_isE (X := X) (F := F) (c := .ty T) (fun u h => h) hk) h
end
end Vx
set_option maxHeartbeats 2000000
namespace Vx
open PySem PySem.Spec PyProof.Rows L2
/-- a def keeps its promise wherever no repr is under way -/
structure FnG (P : Program) (w : World) (K : PySem.W.Frag) (mg : Str → Option Value) (base : Heap) (k : Nat) (f : Addr) (fd : FuncData) (ps : List Str) (sp : Sp) : Prop where
  len : ∀ vs H Q E, sp vs H Q E → vs.length = ps.length
  run : ∀ (A : Around) (outer : List Env) (s : Shared) (H : Hp) (args : Args) (us : List Value) (vs : List V) (Q : VK) (E : XK), RoomG k A → Env0 P w K mg base A outer s H → BindsTo s fd args (ps.zip us) →
    Vals vs us → sp vs H Q E → codeAny (model P w) A (.call (.ref f) args) (CR (L2.CX P w) outer P w H s Q E) s
theorem FnG.mono {P : Program} {w : World} {K : PySem.W.Frag} {mg : Str → Option Value} {base : Heap} {j k : Nat} {f : Addr} {fd : FuncData} {ps : List Str} {sp : Sp} (F : FnG P w K mg base j f fd ps sp) (h : j ≤ k) : FnG P w K mg base k f fd ps sp :=
  ⟨F.len, fun A outer s H args us vs Q E r => F.run A outer s H args us vs Q E (r.mono h)⟩
section
variable {P : Program} {w : World} {K : PySem.W.Frag} {mg : Str → Option Value} {base : Heap} {x qual : Str} {params : Arguments} {body : List Stmt} {scope : Scope} {dvs : List V} {kws : List (Str × V)} {f : Addr} {fd : FuncData} {N ps : List Str} {k : Nat}
theorem fn_okG {cn : Str → Addr} {tb : List (Addr × Str)} {md : List Md} {m : M Fl} (F : FunD K x qual params body scope dvs kws f fd) (S : FnScope N ps scope) (hm : md.length = ps.length) (hN : ps.length ≤ N.length)
    (hb : ∀ (cdv : Value) (A : Around) (outer : List Env) (s : Shared) (H : Hp) (E : XK) (F : Fc), cdv = fd.code → RoomG k (A.deeper (envOfC qual scope s.heap.objs.size f cdv)) → F.cn = cn → F.tb = tb →
      Takes (cxOf (L2.CX P w) P w K mg base N qual scope f cdv A outer s H E) F.W → QSs (cxOf (L2.CX P w) P w K mg base N qual scope f cdv A outer s H E) F body m) :
    FnG P w K mg base (k + 1) f fd ps (spV K cn tb md (runD md (N.length - md.length) m)) := by
  obtain ⟨oc, od, dV, kV, doc, pm, an, cdv, ct, osl, rfl, lk, hcd, _, _⟩ := F.ex
  refine ⟨spV_len hm, fun A outer s H args us vs Q E r e0 hbn rv h => ?_⟩
  have hl := spV_len hm vs H Q E h
  obtain ⟨htb, A', ds, ls, hA, hl2, nd, ar, g⟩ := h
  refine LamX.run_ofS lk hcd S r.room e0 hbn rv hl fun hr => ⟨_, hb cdv A outer s H E (fcOf cn tb A' H md vs ls E) rfl ⟨hr, r.gd⟩ rfl rfl (takes_of rfl rfl rfl rfl), ?_⟩
  exact exit_ok (σ := []) (ρ := []) hA hl2 nd ar (by rw [hm]; exact hN) htb g
theorem fn_noG {cn : Str → Addr} {tb : List (Addr × Str)} {md : List Md} (F : FunD K x qual params body scope dvs kws f fd) (S : FnScope N ps scope) (hm : md.length = ps.length) : FnG P w K mg base (k + 1) f fd ps (spV K cn tb md fun _ => .no) :=
  ⟨spV_len hm, fun A outer s H args us vs Q E _ _ _ _ h => by
    obtain ⟨_, _, _, _, _, _, _, _, g⟩ := h
    exact g.elim⟩
end
section
variable {X : Cx} {F : Fc} {mas : M (List Op)} {e : Expr} {es : List Expr} {x : Str} {p pos : Pos} {k : Nat} {f : Addr} {fd : FuncData} {ps : List Str} {md : List Md} {g : List D → FR}
theorem run_G {sp : Sp} {E : L2.St → XK} {pins : List (Addr × Obj)} {σ : L2.St} {H : Hp} {s : Shared} {Q : VK} {us : List Value} {vs : List V} (FN : FnG X.prog X.w X.K X.mg X.base k f fd ps sp) (r : RoomG k X.A) (hb : Binds X.K fd ps []) (hx : PassesAt (L2.CX X.prog X.w) X σ (E σ))
    (I : Inv X pins σ H s) (rv : Vals vs us) (h : sp vs H Q (E σ)) : wpAny (model X.prog X.w) X.A (call (.ref f) us) (EP X pins σ Q) X.xe s := by
  have hl : us.length = ps.length := by
    rw [← rv.length]; exact FN.len _ _ _ _ h
  have bn := hb s us I.kIn (by rw [List.append_nil]; exact hl)
  rw [List.append_nil] at bn
  have done := FN.run X.A X.stack s H ⟨us, []⟩ us vs Q (E σ) r I.env0 bn rv h
  refine wpAny_call (codeAny_mono done fun res s' hq => ?_)
  cases res with
  | error err => exact hx pins H s err s' I hq
  | ok fl => cases fl with
    | ret u => exact I.after hq
    | _ => exact False.elim hq
theorem qe_callG (FN : FnG X.prog X.w X.K X.mg X.base k f fd ps (spV X.K F.cn F.tb md g)) (r : RoomG k X.A) (hg : Gl X x) (hm : X.mg x = some (.ref f)) (hk : PySem.W.keepIn X.K (.ref f) = true) (hb : Binds X.K fd ps []) (tk : Takes X F.W)
    (ha : QA X F (e :: es) mas) (hdb : (x == ("__debug__" : Str)) = false := by decide) (he : starEach (e :: es) X.env = (false, eval e X.env) :: starEach es X.env := by rfl) (hpl : (backTo pos (starEach es X.env)).any (·.1) = false := by rfl) : QE X F (.Call (.Name x p) (e :: es) [] pos) (mCall g md mas) := by
  have one : PE X (.Call (.Name x p) (e :: es) [] pos) (tCallS (spV X.K F.cn F.tb md g) (WE F.W) (liftA X.K F mas)) := by
    constructor
    intro pins s σ H Q I h
    refine wpAny_Call_Name_kw (ld_glob I hg hm ?_ hdb)
    have args := ha.run pos pins s σ H _ I h
    refine PySem.W.callWith_K (h₀ := X.base) I.ok.mod.kin hk ?_ he hpl
    exact thn args fun us s1 ⟨vs, H1, I1, rv, q⟩ => ⟨I1.kIn, run_G FN r hb (passAt tk σ) I1 rv q⟩
  exact one.imp fun _ _ _ h => liftCall h
end
theorem law_callG {P : Program} {w : World} {K : PySem.W.Frag} {mg mb : Str → Option Value} {k : Nat} {fa a : Addr} {cs : List (Addr × Addr)} {fd : FuncData} {x : Str} {sp : Sp} {st : Shared} {vs : List Value} {ns : List Int}
    (KX : K.In st.heap) (hns : st.heap.Ns mainGlobals mg) (hb : st.heap.Ns builtinsNs mb) (hbb : ∀ x : Str, x ≠ "__name__" → mb x = bootBuiltins x) (hlim : st.heap.NoLimit) (hgen : st.gens = #[])
    (hT : ∀ p ∈ cs, st.heap.get? p.2 = some { cls := .none, data := .fields #[] }) (nT : ∀ p ∈ cs, K.lookup p.2 = none) (C : ∀ p ∈ cs, PySem.W.CodeHd st.heap p.1 p.2)
    (hbm : ∃ (bm : Addr) (ob : Obj), mg "__builtins__" = some (.ref bm) ∧ bm ≠ builtinsNs ∧ st.heap.get? bm = some ob ∧ ob.cls = .type "module" ∧ ob.dict = some builtinsNs ∧ ob.data = .plain)
    (ha : st.heap.get? a = some { cls := .type "list", data := .seq vs.toArray }) (hi : IntsAre vs ns) (hl : ns.length ≤ sizeLine) (hr : RoomG k callerA)
    (F : ∀ base : Heap, K.In base → base.Ns mainGlobals mg → (∀ p ∈ cs, LamX.TabB base mg p.1 p.2) → FnG P w K mg base k fa fd [x] sp) (hbind : ∀ (s : Shared) (u : Value), BindsTo s fd ⟨[u], []⟩ [(x, u)])
    (hsp : ∀ H : Hp, (∀ p ∈ cs, H p.2 = some (.tbl #[])) → SqL K H a (ns.map V.int) → sp [.ref a] H (fun v _ => v = .bl true) fun _ _ _ => False) :
    codeAny (model P w) callerA (.call (.ref fa) ⟨[.ref a], []⟩) (fun r s' => r = .ok (.ret (.bool true)) ∧ OldK st.heap s'.heap ∧ s'.os = st.os ∧ AllBare s'.gens) st := by
  let tab : Addr → Prop := fun b => b ∈ cs.map (·.2)
  let lo : Obj := { cls := .type "list", data := .seq vs.toArray }
  have rv := vals_ints hi
  have tabO : ∀ b, tab b → st.heap.get? b = some { cls := .none, data := .fields #[] } := by
    intro b h
    obtain ⟨p, hp, rfl⟩ := List.mem_map.mp h
    exact hT p hp
  have tabA : ¬ tab a := by
    intro h
    have q := (tabO a h).symm.trans ha
    have q2 := congrArg Obj.data (Option.some.inj q)
    cases q2
  let H : Hp := fun b => if tab b then some (.tbl #[]) else if b = a ∧ K.lookup a = none then some (.frz lo (.lst (ns.map V.int))) else none
  have H_t : ∀ b, tab b → H b = some (.tbl #[]) := fun b h => if_pos h
  have H_a : K.lookup a = none → H a = some (.frz lo (.lst (ns.map V.int))) := fun h => (if_neg tabA).trans (if_pos ⟨rfl, h⟩)
  have H_c : ∀ b o, H b = some o → (tab b ∧ o = .tbl #[]) ∨ (b = a ∧ K.lookup a = none ∧ o = .frz lo (.lst (ns.map V.int))) := by
    intro b o e
    by_cases h : tab b
    · rw [H_t b h] at e
      exact .inl ⟨h, (Option.some.inj e).symm⟩
    · by_cases h2 : b = a ∧ K.lookup a = none
      · have e2 : some (HO.frz lo (.lst (ns.map V.int))) = some o := ((if_neg h).trans (if_pos h2)).symm.trans e
        exact .inr ⟨h2.1, h2.2, (Option.some.inj e2).symm⟩
      · have e2 : none = some o := ((if_neg h).trans (if_neg h2)).symm.trans e
        cases e2
  -- what is neither a list nor a table is not tracked
  have free : ∀ {b : Addr} {o : Obj}, st.heap.get? b = some o → (∀ xs n, o.data ≠ .seq xs n) → o.data ≠ .fields #[] → H b = none := by
    intro b o e n1 n2
    cases q : H b with
    | none => rfl
    | some u =>
      exfalso
      rcases H_c b u q with ⟨h, _⟩ | ⟨h, _, _⟩
      · rw [tabO b h] at e; cases e; exact n2 rfl
      · subst h; rw [ha] at e; cases e; exact n1 _ _ rfl
  have hidden : ∀ {b : Addr} {o : Obj}, st.heap.get? b = some o → H b = none → (hidT st.heap H).get? b = some o := fun e n => hidT_get e n
  have nsH : ∀ {b : Addr} {m : Str → Option Value}, st.heap.Ns b m → (hidT st.heap H).Ns b m := by
    rintro b m ⟨o, es, ep, e, d, r⟩
    refine ⟨o, es, ep, hidden e (free e ?_ ?_), d, r⟩
    · intro xs n z; rw [d] at z; cases z
    · intro z; rw [d] at z; cases z
  have kinH : K.In (hidT st.heap H) := by
    intro b o e
    refine hidden (KX b o e) ?_
    cases q : H b with
    | none => rfl
    | some u =>
      exfalso
      rcases H_c b u q with ⟨h, _⟩ | ⟨h, h2, _⟩
      · obtain ⟨p, hp, rfl⟩ := List.mem_map.mp h
        rw [nT p hp] at e; cases e
      · subst h; rw [h2] at e; cases e
  have mod : L2.Mod K mg (hidT st.heap H) := by
    obtain ⟨mc, l1, l2⟩ := hlim
    exact ⟨kinH, nsH hns, ⟨mb, nsH hb, hbb⟩, ⟨mc, nsH l1, l2⟩⟩
  have tabB : ∀ p ∈ cs, LamX.TabB (hidT st.heap H) mg p.1 p.2 := by
    intro p hp
    have tp := hT p hp
    constructor
    · obtain ⟨o, us, file, tf, flags, tg, inF, text, tt, e1, r1, r2, r3, r4⟩ := C p hp
      refine ⟨o, us, file, tf, flags, tg, inF, text, tt, hidden e1 (free e1 ?_ ?_), r1, r2, r3, r4⟩
      · intro xs n z; rw [r2] at z; cases z
      · intro z; rw [r2] at z; cases z; simp at r3
    · obtain ⟨bm, ob, b1, b2, b3, b4, b5, b6⟩ := hbm
      have ng : bm ≠ mainGlobals := by
        rintro rfl
        obtain ⟨o, es, ep, e, hd, _⟩ := hns
        rw [b3] at e; cases e
        rw [b6] at hd; cases hd
      have np : bm ≠ p.2 := by
        rintro rfl
        rw [tp] at b3; cases b3; cases b6
      refine ⟨bm, ob, b1, b2, ng, np, hidden b3 (free b3 ?_ ?_), b4, b5, b6⟩
      · intro xs n z; rw [b6] at z; cases z
      · intro z; rw [b6] at z; cases z
    · intro z
      obtain ⟨o, es, ep, e, hd, _⟩ := hns
      rw [z, tp] at e; cases e; cases hd
  have hok : HOk P w H st.heap := by
    intro b u e
    rcases H_c b u e with ⟨h, rfl⟩ | ⟨rfl, _, rfl⟩
    · exact tabO b h
    · exact ⟨ha, by rw [List.length_map]; exact hl, vs, _, rv, ha⟩
  have sq : SqL K H a (ns.map V.int) := by
    cases q : K.lookup a with
    | none => exact .inl (.inr ⟨lo, H_a q⟩)
    | some o =>
      have e := KX a o q
      rw [ha] at e
      cases e
      exact .inr ⟨_, vs.toArray, _, q, rfl, rfl, rfl, by rw [List.size_toArray, hi.length]; exact hl, by simpa using rv⟩
  have e0 : Env0 P w K mg (hidT st.heap H) callerA [] st H := by
    refine ⟨rfl, mod, fun b o e => of_hidT e, Nat.le_of_eq (hidT_size _ _), trivial, ?_, hok, .of_eq hgen⟩
    intro b z
    exact absurd (show b ∈ ([] : List Addr) from z) (by simp)
  have run := (F _ kinH (nsH hns) tabB).run callerA [] st H ⟨[.ref a], []⟩ [.ref a] [.ref a] _ _ hr e0 (hbind st (.ref a)) (.cons rfl .nil) (hsp H (fun p hp => H_t _ (List.mem_map.mpr ⟨p, hp, rfl⟩)) sq)
  refine codeAny_mono run fun res s' h => ?_
  match res, h with
  | .error e, h => exact (cx_no h).elim
  | .ok .next, h => exact h.elim
  | .ok .brk, h => exact h.elim
  | .ok .cont, h => exact h.elim
  | .ok (.ret u), h =>
    obtain ⟨v, H', os, bare, un, hok', r', q⟩ := h
    have q : v = .bl true := q
    subst q
    obtain rfl : u = Value.bool true := r'
    have kept : ∀ b o, ¬ tab b → st.heap.get? b = some o → s'.heap.get? b = some o := by
      intro b o n e
      cases q : H b with
      | none => exact un.keep b o e q (fun z => absurd (show b ∈ ([] : List Addr) from z) (by simp)) (by simp)
      | some y =>
        rcases H_c b y q with ⟨h, _⟩ | ⟨_, _, rfl⟩
        · exact absurd h n
        · obtain ⟨e1, _⟩ := hok b _ q
          obtain ⟨e2, _⟩ := hok' b _ (un.frzs b lo _ q)
          rw [e] at e1; cases e1
          exact e2
    have more : ∀ p ∈ cs, ∃ qs : Array Value, s'.heap.get? p.2 = some { cls := .none, data := .fields qs } := by
      intro p hp
      obtain ⟨qs, z⟩ := un.tbls p.2 #[] (H_t _ (List.mem_map.mpr ⟨p, hp, rfl⟩))
      exact ⟨_, hok' p.2 _ z⟩
    refine ⟨rfl, ⟨?_, ?_⟩, os, bare⟩
    · intro b o e
      by_cases h : tab b
      · obtain ⟨p, hp, rfl⟩ := List.mem_map.mp h
        obtain ⟨qs, z⟩ := more p hp
        rw [hT p hp] at e; cases e
        exact .inr (.inl ⟨((C p hp).tab (hT p hp)).isCodeTable, rfl, #[], qs, rfl, by rw [Array.empty_append]; exact z⟩)
      · exact .inl (kept b o h e)
    · intro b o e
      by_cases h : tab b
      · obtain ⟨p, hp, rfl⟩ := List.mem_map.mp h
        obtain ⟨qs, z⟩ := more p hp
        exact ⟨_, z⟩
      · exact ⟨o, kept b o h e⟩
end Vx
set_option maxHeartbeats 2000000
namespace Vx
open PySem PySem.Spec L2
def isE0 : D → Bool
  | .dict [] => true
  | _ => false
def reprB (d : D) : Bool := (noDict d || isE0 d) && d.showable && decide (d.shown.length ≤ sizeLine) && decide (d.depth ≤ 60)
def fRepr (d : D) : Option Op := if reprB d = true then some (.val (.str d.shown)) else none
/-- data as repr reads it -/
def DpR (K : PySem.W.Frag) (H : Hp) (v : V) (d : D) : Prop := Dp K H v d ∨ (d = .dict [] ∧ ∃ a, v = .ref a ∧ H a = some (.dK []))
def rRepr (K : PySem.W.Frag) : List V → Hp → VK → Prop := fun xs H Q => ∃ v d, xs = [v] ∧ DpR K H v d ∧ d.showable = true ∧ d.shown.length ≤ sizeLine ∧ d.depth ≤ 60 ∧ Q (.str d.shown) H
mutual
theorem dp_hasDict {K : PySem.W.Frag} {H : Hp} : ∀ (d : D) (v : V), Dp K H v d → d.hasDict = false
  | .none, _, _ => by simp only [PyData.hasDict]
  | .bool _, _, _ => by simp only [PyData.hasDict]
  | .int _, _, _ => by simp only [PyData.hasDict]
  | .str _, _, _ => by simp only [PyData.hasDict]
  | .list ds, _, h => by
    cases h with
    | lst _ q => simp only [PyData.hasDict]; exact dps_hasDict ds _ q
  | .tuple ds, _, h => by
    cases h with
    | tup _ q => simp only [PyData.hasDict]; exact dps_hasDict ds _ q
  | .dict _, _, h => nomatch h
theorem dps_hasDict {K : PySem.W.Frag} {H : Hp} : ∀ (ds : List D) (vs : List V), DpAll K H vs ds → PyData.hasDictAll ds = false
  | [], _, _ => by simp only [PyData.hasDictAll]
  | d :: ds, _, h => by
    cases h with
    | cons h1 h2 => simp only [PyData.hasDictAll, dp_hasDict d _ h1, dps_hasDict ds _ h2, Bool.or_self]
end
section
variable {X : Cx} {k : Nat}
theorem dict_reads {pins : List (Addr × Obj)} {σ : St} {H : Hp} {s : Shared} {a : Addr} (I : Inv X pins σ H s) (h : H a = some (.dK [])) : Reads s.heap (.ref a) (.dict []) (a :: [] ++ []) ∧ (a == sysModules) = false := by
  obtain ⟨_, lo, vs, rel, dd⟩ := dk_of I.hok h
  refine ⟨?_, lo⟩
  cases rel
  obtain ⟨o, es, ep, h1, h2, h3, h4, h5, h6⟩ := dd
  have e : es.toList = [] := by
    generalize es.toList = l at h5
    cases h5; rfl
  refine Reads.dict h1 h2.1 h3 ?_ ?_
  · rw [e]; exact .nil
  · rw [e]; exact .nil
theorem call_reprG (r : RoomG k X.A) : CallR X (.builtin "repr") (rRepr X.K) := by
  intro pins s σ H xs us Q I rv h
  obtain ⟨v, d, rfl, hd, hs, hz, hdp, q⟩ := h
  obtain ⟨u, rfl, ru⟩ := rv.one
  have un := r.room.un
  have ref : ∀ (a : Addr) (as : List Addr), u = .ref a → Reads s.heap (.ref a) d as → (d.hasDict = true → sysModules ∉ as) → wpAny (model X.prog X.w) X.A (call (.builtin "repr") [u]) (EP X pins σ Q) X.xe s := by
    intro a as eu rd hm
    subst eu
    refine repr_of_reads' rd hs hm r.gd (by omega) (fun _ _ e => e) (fun h' t tk kp => ?_) hz
    exact ⟨.str d.shown, H, I.kept kp, ⟨_, rfl⟩, q⟩
  rcases hd with hd | ⟨rfl, a, rfl, ha⟩
  · obtain ⟨as, rd⟩ := Dp.reads I d v u hd ru
    have nd : d.hasDict = true → sysModules ∉ as := fun z => by
      exfalso
      rw [dp_hasDict d v hd] at z; cases z
    cases hd with
    | non =>
      cases ru
      exact PySem.P.repr_of_none ⟨.str _, H, I.tok _, ⟨_, rfl⟩, q⟩
    | bl b =>
      cases ru
      exact PySem.P.repr_of_bool ⟨.str _, H, I.tok _, ⟨_, rfl⟩, q⟩
    | int i =>
      obtain ⟨t, rfl⟩ := ru
      exact PySem.P.repr_of_int (by simpa [PyData.showable] using hs) ⟨.str _, H, I.tok _, ⟨_, rfl⟩, q⟩
    | str z =>
      obtain ⟨t, rfl⟩ := ru
      exact PySem.P.repr_of_str ⟨.str _, H, I.tok _, ⟨_, rfl⟩, q⟩ (by simpa [PyData.shown] using hz)
    | lst hl ha => cases ru; exact ref _ as rfl rd nd
    | tup hl ha => cases ru; exact ref _ as rfl rd nd
  · cases ru
    obtain ⟨rd, lo⟩ := dict_reads I ha
    refine ref a _ rfl rd fun _ z => ?_
    have e : sysModules = a := by simpa using z
    rw [e] at lo; simp at lo
theorem p_repr (r : RoomG k X.A) : Pn X.K (rRepr X.K) (f1 fRepr) := pn_1 (by
  intro A H x a op Q hA ha e q
  unfold fRepr at e
  by_cases c : reprB a = true
  case neg => rw [if_neg c] at e; cases e
  rw [if_pos c] at e
  cases e
  unfold reprB at c
  simp only [Bool.and_eq_true, Bool.or_eq_true, decide_eq_true_eq] at c
  obtain ⟨⟨⟨c1, c2⟩, c3⟩, c4⟩ := c
  refine ⟨x, a, rfl, ?_, c2, c3, c4, q _ _ (pr_val (.str _))⟩
  rcases c1 with c1 | c1
  · exact .inl (ha.dp c1)
  · cases a <;> try cases c1
    rename_i ks
    cases ks with
    | cons _ _ => cases c1
    | nil =>
      obtain ⟨b, xs, ex, s, rr⟩ := ha.dct rfl
      cases rr
      exact .inr ⟨rfl, b, ex, s⟩)
def mDict0 : M Op := fun ρ => .ok (.fr (.dict [])) ρ
@[simp] theorem ev_dict0 (ρ : Ev) : mDict0 ρ = .ok (.fr (.dict [])) ρ := rfl
theorem qe_dict0 {F : Fc} {pos : Pos} : QE X F (.Dict [] [] pos) mDict0 := by
  refine pe_dnewK.imp fun σ H Q ⟨T, ρ, R, h⟩ => ?_
  intro p hp
  exact h _ _ (fin_ R (Ext.refl ..) (fun _ z => z) ⟨upd_grow hp, p, rfl, hp, [], upd_same, .nil⟩)
def fRepT : D → D → Option Op
  | .tuple ds, .int k => if (decide (0 < ds.length) && decide (ds.length ≤ 1000) && decide (2 ≤ k) && decide (k ≤ 1000)) = true then some (.val (.tuple (List.replicate k.toNat ds).flatten)) else none
  | _, _ => none
theorem p_repT : P2 X.K (rRepT X.K) fRepT := by
  intro A H x y a b op Q hA ha hb e q
  cases a <;> try cases e
  cases b <;> try cases e
  rename_i ds i
  have e : (if (decide (0 < ds.length) && decide (ds.length ≤ 1000) && decide (2 ≤ i) && decide (i ≤ 1000)) = true then some (Op.val (.tuple (List.replicate i.toNat ds).flatten)) else none) = some op := e
  by_cases c : (decide (0 < ds.length) && decide (ds.length ≤ 1000) && decide (2 ≤ i) && decide (i ≤ 1000)) = true
  case neg => rw [if_neg c] at e; cases e
  rw [if_pos c] at e
  cases e
  simp only [Bool.and_eq_true, decide_eq_true_eq] at c
  obtain ⟨⟨⟨c1, c2⟩, c3⟩, c4⟩ := c
  obtain ⟨l, xs, ex, s, r⟩ := ha.tup
  have rl := r.length
  refine ⟨l, i, xs, ex, by rw [hb.int], s, fun z => by rw [z] at rl; simp at rl; omega, c3, c4, by omega, fun p hp => q _ _ ?_⟩
  exact pr_tup hp hA (RDs.rep _ r)
end
def fEqS : D → D → Option Op
  | .str a, .str b => some (.val (.bool (decide (a = b))))
  | _, _ => none
def fNeS : D → D → Option Op
  | .str a, .str b => some (.val (.bool (!decide (a = b))))
  | _, _ => none
@[simp] theorem fEqS_str (a b : Str) : fEqS (.str a) (.str b) = some (.val (.bool (decide (a = b)))) := rfl
@[simp] theorem fNeS_str (a b : Str) : fNeS (.str a) (.str b) = some (.val (.bool (!decide (a = b)))) := rfl
theorem str_dec (a b : Str) : decide (V.str a = V.str b) = decide (a = b) := by
  by_cases h : a = b
  · subst h; simp
  · have : V.str a ≠ V.str b := fun z => h (V.str.inj z)
    rw [decide_eq_false h, decide_eq_false this]
theorem p_eqS {K : PySem.W.Frag} : P2 K rEq fEqS := by
  intro A H x y a b op Q hA ha hb e q
  cases a <;> try cases e
  cases b <;> try cases e
  rw [ha.str, hb.str]
  exact ⟨rfl, by rw [str_dec]; exact q _ _ (pr_val (.bl _))⟩
theorem p_neS {K : PySem.W.Frag} : P2 K rNe fNeS := by
  intro A H x y a b op Q hA ha hb e q
  cases a <;> try cases e
  cases b <;> try cases e
  rw [ha.str, hb.str]
  exact ⟨rfl, by rw [str_dec]; exact q _ _ (pr_val (.bl _))⟩
theorem walk_G {l : PySem.W.OpenLaw} {n k : Nat} {q : Program} {loose : List Str} {XP : (Str → Option Value) → Heap → Prop} {YP : World → Heap → Prop} {d : DefRec} {x : Str}
    (hn : l.most = some n) (hn2 : n ≤ sizeLine) (hdf : d.params.defaults = []) (hr : RoomG k callerA)
    (F : ∀ (w : World) (mg : Str → Option Value) (fa : Addr) (h : Heap), YP w h → h.Ns mainGlobals mg → mg d.name = some (.ref fa) → ∃ (K : PySem.W.Frag) (fd : FuncData) (cs : List (Addr × Addr)) (sp : Sp), K.In h ∧
      (∀ p ∈ cs, h.get? p.2 = some { cls := .none, data := .fields #[] }) ∧ (∀ p ∈ cs, K.lookup p.2 = none) ∧ (∀ p ∈ cs, PySem.W.CodeHd h p.1 p.2) ∧ (∀ (s : Shared) (u : Value), BindsTo s fd ⟨[u], []⟩ [(x, u)]) ∧
      (∀ (H : Hp) (a : Addr) (ns : List Int), ns.length ≤ n → (∀ z ∈ ns, Builtin.Int.intBits z ≤ 1048576) → (∀ p ∈ cs, H p.2 = some (.tbl #[])) → SqL K H a (ns.map V.int) → sp [.ref a] H (fun v _ => v = .bl true) fun _ _ _ => False) ∧
      ∀ base : Heap, K.In base → base.Ns mainGlobals mg → (∀ p ∈ cs, LamX.TabB base mg p.1 p.2) → FnG l.prog w K mg base k fa fd [x] sp) :
    PySem.W.WalkO q loose XP YP l.row.toRowW d [] (fun f vs => PySem.call f vs) := by
  refine Att.attach_callB hn hdf ?_
  intro w sA sB mg mb fa o pm cd doc a vs ns G Y ho hd hcd hmg hobj hints hlen hbits hgen
  obtain ⟨K, fd, cs, sp, KX, hT, nT, C, hb, hsp, hF⟩ := F w mg fa _ Y G.T.g hmg
  have run := law_callG KX G.T.g G.T.b G.T.builtins G.T.nolimit hgen hT nT C G.T.bmain hobj hints (Nat.le_trans hlen hn2) hr hF hb
  exact run fun H h1 h2 => hsp H a ns hlen hbits h1 h2
end Vx
set_option maxHeartbeats 2000000
namespace Vx
open PySem PySem.Spec L2
def tLst (u : Tgs) : Tg := fun d ρ => match d with
  | .list ds => u ds ρ
  | _ => none
@[simp] theorem ev_tLst (u : Tgs) (ds : List D) (ρ : Ev) : tLst u (.list ds) ρ = u ds ρ := rfl
section
variable {X : Cx} {F : Fc} {pos : Pos} {e : Expr} {es : List Expr} {t : Tg} {u : Tgs} {ws ws' : List Nat}
theorem qg_lst {k : Nat} {n : Nat} (hc : X.calm = true) (h : QGs X F es u ws) (hl : ∀ ds ρ ρ', u ds ρ = some ρ' → ds.length = n)
    (hn : (assignEach es X.env).length = n := by rfl) (hst : (assignEach es X.env).findIdx? (·.1) = none := by rfl) : QG X F (.Tuple es k pos) (tLst u) ws := by
  refine (pg_lst hc h hn hst).imp fun v σ H Q ⟨T, ρ, d, R, r, ρ', e, h⟩ => ?_
  cases d with
  | list ds =>
    obtain ⟨a, xs, q1, q2, q3⟩ := (RB.rd r).lst
    exact ⟨a, xs, q1, q2, by rw [q3.length]; exact hl ds ρ ρ' e, T, ρ, ds, R, q3, ρ', e, h⟩
  | _ => cases e
end
end Vx
set_option maxHeartbeats 2000000
namespace Vx
open PySem PySem.Spec L2
section
variable (ρ : Ev)
@[simp] theorem ev_C (d : D) : mC d ρ = .ok (.val d) ρ := rfl
@[simp] theorem ev_V (i : Nat) : mV i ρ = opt ρ (slV i ρ[i]?) := rfl
@[simp] theorem ev_1 (f : D → Option Op) (a : M Op) : m1 f a ρ = (a ρ).bind fun x ρ1 => opt ρ1 ((rd ρ1 x).bind f) := rfl
@[simp] theorem ev_2 (f : D → D → Option Op) (a b : M Op) : m2 f a b ρ = (a ρ).bind fun x ρ1 => (b ρ1).bind fun y ρ2 => opt ρ2 ((rd ρ2 x).bind fun a => (rd ρ2 y).bind fun b => f a b) := rfl
@[simp] theorem ev_B (f : List D → Option Op) (as : M (List Op)) : mB f as ρ = (as ρ).bind fun xs ρ1 => opt ρ1 ((rds ρ1 xs).bind f) := rfl
@[simp] theorem ev_aNil : aNil ρ = .ok [] ρ := rfl
@[simp] theorem ev_aCons (a : M Op) (as : M (List Op)) : aCons a as ρ = (a ρ).bind fun x ρ1 => (as ρ1).bind fun xs ρ2 => .ok (x :: xs) ρ2 := rfl
@[simp] theorem ev_K (a : M Op) : mK a ρ = (a ρ).bind fun x ρ1 => optE (kp ρ1 x) := rfl
@[simp] theorem ev_kNil : kNil ρ = .ok [] ρ := rfl
@[simp] theorem ev_kCons (a : M Op) (as : M (List D)) : kCons a as ρ = (mK a ρ).bind fun x ρ1 => (as ρ1).bind fun xs ρ2 => .ok (x :: xs) ρ2 := rfl
@[simp] theorem ev_Tup (as : M (List D)) : mTup as ρ = (as ρ).bind fun xs ρ1 => if xs.length ≤ sizeLine then .ok (.val (.tuple xs)) ρ1 else .no := rfl
@[simp] theorem ev_Lst (as : M (List D)) : mLst as ρ = (as ρ).bind fun xs ρ1 => if xs.length ≤ sizeLine then .ok (.fr (.list xs)) ρ1 else .no := rfl
@[simp] theorem ev_T (a : M Op) : mT a ρ = (a ρ).bind fun x ρ1 => opt ρ1 ((rd ρ1 x).bind isB) := rfl
@[simp] theorem ev_Tr (a : M Op) : mTr a ρ = (a ρ).bind fun x ρ1 => opt ρ1 ((rd ρ1 x).bind truD) := rfl
@[simp] theorem ev_Not (t : M Bool) : mNot t ρ = (t ρ).bind fun b ρ1 => .ok (!b) ρ1 := rfl
@[simp] theorem ev_And (t u : M Bool) : mAnd t u ρ = (t ρ).bind fun b ρ1 => if b = true then u ρ1 else .ok false ρ1 := rfl
@[simp] theorem ev_Or (t u : M Bool) : mOr t u ρ = (t ρ).bind fun b ρ1 => if b = true then .ok true ρ1 else u ρ1 := rfl
@[simp] theorem ev_If {α : Type} (c : M Bool) (a b : M α) : mIf c a b ρ = (c ρ).bind fun k ρ1 => if k = true then a ρ1 else b ρ1 := rfl
@[simp] theorem ev_NotV (t : M Bool) : mNotV t ρ = (t ρ).bind fun b ρ1 => .ok (.val (.bool (!b))) ρ1 := rfl
@[simp] theorem ev_AndV (t : M Bool) (u : M Op) : mAndV t u ρ = (t ρ).bind fun b ρ1 => if b = true then u ρ1 else .ok (.val (.bool false)) ρ1 := rfl
@[simp] theorem ev_OrV (t : M Bool) (u : M Op) : mOrV t u ρ = (t ρ).bind fun b ρ1 => if b = true then .ok (.val (.bool true)) ρ1 else u ρ1 := rfl
@[simp] theorem ev_sNx : sNx ρ = .ok .nx ρ := rfl
@[simp] theorem ev_sSeq (a b : M Fl) : sSeq a b ρ = (a ρ).bind fun f ρ1 => match f with
  | .nx => b ρ1
  | .bk => .ok .bk ρ1
  | .ct => .ok .ct ρ1
  | .rt x => .ok (.rt x) ρ1 := rfl
@[simp] theorem ev_sIf (c : M Bool) (a b : M Fl) : sIf c a b ρ = (c ρ).bind fun k ρ1 => if k = true then a ρ1 else b ρ1 := rfl
@[simp] theorem ev_sRet (a : M Op) : sRet a ρ = (a ρ).bind fun x ρ1 => .ok (.rt x) ρ1 := rfl
@[simp] theorem ev_sDrop (a : M Op) : sDrop a ρ = (a ρ).bind fun _ ρ1 => .ok .nx ρ1 := rfl
@[simp] theorem ev_sSet (i : Nat) (a : M Op) : sSet i a ρ = (a ρ).bind fun x ρ1 => oNx (stO i ρ1 x) := rfl
@[simp] theorem ev_sTg (t : Tg) (a : M Op) : sTg t a ρ = (mK a ρ).bind fun d ρ1 => oNx (t d ρ1) := rfl
@[simp] theorem ev_tName (i : Nat) (d : D) : tName i d ρ = if free ρ[i]? then some (ρ.set i (.cl d)) else none := rfl
@[simp] theorem ev_tsNil : tsNil [] ρ = some ρ := rfl
@[simp] theorem ev_tsCons (t : Tg) (u : Tgs) (d : D) (r : List D) : tsCons t u (d :: r) ρ = (t d ρ).bind (u r) := rfl
@[simp] theorem ev_tTup (u : Tgs) (ds : List D) : tTup u (.tuple ds) ρ = u ds ρ := rfl
@[simp] theorem ev_stV (i : Nat) (d : D) : stO i ρ (.val d) = if free ρ[i]? then some (ρ.set i (.cl d)) else none := rfl
@[simp] theorem ev_stF (i : Nat) (d : D) : stO i ρ (.fr d) = if free ρ[i]? then some (ρ.set i (.ow d)) else none := rfl
@[simp] theorem ev_stS (i j : Nat) : stO i ρ (.sl j) = if free ρ[i]? then (keepS j ρ ρ[j]?).bind fun p => some (p.2.set i (.cl p.1)) else none := rfl
@[simp] theorem ev_sFor (it : M (List D)) (t : Tg) (b : M Fl) : sFor it t b ρ = (it ρ).bind fun ds ρ1 => forI t b ds ρ1 := rfl
@[simp] theorem ev_sWhile (n : Nat) (c : M Bool) (b : M Fl) : sWhile n c b ρ = whI c b n ρ := rfl
@[simp] theorem ev_sPar (i j : Nat) (a b : M Op) : sPar i j a b ρ = (a ρ).bind fun x ρ1 => (b ρ1).bind fun y ρ2 => if (noSl x && noSl y) = true then oNx ((stO i ρ2 x).bind fun ρ3 => stO j ρ3 y) else .no := rfl
@[simp] theorem ev_Call (g : List D → FR) (md : List Md) (as : M (List Op)) : mCall g md as ρ = (as ρ).bind fun xs ρ1 => if noFr md xs = true then (match prep md xs ρ1 with
  | none => .no
  | some (ds, is, ρ2) => if apart md xs is = true then (match g ds with
    | .ok b d outs => (match putA is outs ρ2 with
      | some ρ3 => .ok (if b = true then .fr d else .val d) ρ3
      | none => .no)
    | .er x outs => (match putA is outs ρ2 with
      | some ρ3 => .er x ρ3
      | none => .no)
    | .no => .no) else .no) else .no := rfl
@[simp] theorem ev_Chain (f g : D → D → Option Op) (a b c : M Op) : mChain f g a b c ρ = (a ρ).bind fun x ρ1 => (b ρ1).bind fun y ρ2 => (opt ρ2 ((rd ρ2 x).bind fun a => (rd ρ2 y).bind fun b => (f a b).bind fun r => (rd ρ2 r).bind isB)).bind fun k ρ2 =>
  if k = true then (c ρ2).bind fun z ρ3 => opt ρ3 ((rd ρ3 y).bind fun b => (rd ρ3 z).bind fun c => g b c) else .ok (.val (.bool false)) ρ2 := rfl
@[simp] theorem ty_int (i : Int) : tyD (.int i) = "int" := rfl
@[simp] theorem ty_bool (i : Bool) : tyD (.bool i) = "bool" := rfl
@[simp] theorem ty_none : tyD .none = "NoneType" := rfl
@[simp] theorem ty_str (i : Str) : tyD (.str i) = "str" := rfl
@[simp] theorem ty_list (i : List D) : tyD (.list i) = "list" := rfl
@[simp] theorem ty_tup (i : List D) : tyD (.tuple i) = "tuple" := rfl
@[simp] theorem ty_dict (i : List (D × D)) : tyD (.dict i) = "dict" := rfl
@[simp] theorem okT_int (i : Int) : okT (.int i) = true := rfl
@[simp] theorem okT_bool (i : Bool) : okT (.bool i) = true := rfl
@[simp] theorem okT_none : okT .none = true := rfl
@[simp] theorem okT_str (i : Str) : okT (.str i) = true := rfl
@[simp] theorem okT_list (i : List D) : okT (.list i) = true := rfl
@[simp] theorem okT_tup (i : List D) : okT (.tuple i) = true := rfl
@[simp] theorem okT_dict (i : List (D × D)) : okT (.dict i) = plainK i := rfl
@[simp] theorem fIsi_eq (ts : List String) (d : D) : fIsi ts d = if okT d = true then some (.val (.bool (ts.contains (tyD d)))) else none := rfl
@[simp] theorem ev_noSlV (d : D) : noSl (.val d) = true := rfl
@[simp] theorem ev_noSlF (d : D) : noSl (.fr d) = true := rfl
@[simp] theorem ev_noSlS (i : Nat) : noSl (.sl i) = false := rfl
@[simp] theorem free_un : free (some .un) = true := rfl
@[simp] theorem free_cl (d : D) : free (some (.cl d)) = true := rfl
@[simp] theorem free_bo (d : D) : free (some (.bo d)) = true := rfl
@[simp] theorem free_ow (d : D) : free (some (.ow d)) = true := rfl
@[simp] theorem free_leF (d : D) : free (some (.le d)) = false := rfl
@[simp] theorem putS_ow (d e : D) : putS d (some (.ow e)) = some (.ow d) := rfl
@[simp] theorem putS_le (d e : D) : putS d (some (.le e)) = some (.le d) := rfl
@[simp] theorem putA_nil : putA [] [] ρ = some ρ := rfl
@[simp] theorem putA_cons (i : Nat) (is : List Nat) (d : D) (ds : List D) : putA (i :: is) (d :: ds) ρ = (putS d ρ[i]?).bind fun s => putA is ds (ρ.set i s) := rfl
@[simp] theorem prep_nil : prep [] [] ρ = some ([], [], ρ) := rfl
@[simp] theorem prep_pl (ms : List Md) (x : Op) (xs : List Op) : prep (.pl :: ms) (x :: xs) ρ = (rd ρ x).bind fun d => (prep ms xs ρ).bind fun r => some (d :: r.1, r.2.1, r.2.2) := rfl
@[simp] theorem prep_mu (ms : List Md) (i : Nat) (xs : List Op) : prep (.mu :: ms) (.sl i :: xs) ρ = (match ρ[i]? with
    | some (.ow d) => (prep ms xs ρ).bind fun r => if i ∈ r.2.1 then none else some (d :: r.1, i :: r.2.1, r.2.2)
    | some (.le d) => (prep ms xs ρ).bind fun r => if i ∈ r.2.1 then none else some (d :: r.1, i :: r.2.1, r.2.2)
    | _ => none) := rfl
end
@[simp] theorem noFr_nil (xs : List Op) : noFr [] xs = true := rfl
@[simp] theorem noFr_pl (ms : List Md) (x : Op) (xs : List Op) : noFr (.pl :: ms) (x :: xs) = noFr ms xs := by cases x <;> rfl
@[simp] theorem noFr_mu (ms : List Md) (x : Op) (xs : List Op) : noFr (.mu :: ms) (x :: xs) = noFr ms xs := by cases x <;> rfl
@[simp] theorem apart_nil (xs : List Op) (is : List Nat) : apart [] xs is = true := rfl
@[simp] theorem apart_plV (ms : List Md) (d : D) (xs : List Op) (is : List Nat) : apart (.pl :: ms) (.val d :: xs) is = apart ms xs is := rfl
@[simp] theorem apart_plF (ms : List Md) (d : D) (xs : List Op) (is : List Nat) : apart (.pl :: ms) (.fr d :: xs) is = apart ms xs is := rfl
@[simp] theorem apart_plS (ms : List Md) (i : Nat) (xs : List Op) (is : List Nat) : apart (.pl :: ms) (.sl i :: xs) is = (!decide (i ∈ is) && apart ms xs is) := rfl
@[simp] theorem apart_mu (ms : List Md) (x : Op) (xs : List Op) (is : List Nat) : apart (.mu :: ms) (x :: xs) is = apart ms xs is := by cases x <;> rfl
@[simp] theorem entS_mu (d : D) : entS .mu d = .le d := rfl
@[simp] theorem entS_kp (d : D) : entS .kp d = .cl d := rfl
@[simp] theorem entS_plL (ds : List D) : entS .pl (.list ds) = .bo (.list ds) := rfl
@[simp] theorem entS_plD (ds : List (D × D)) : entS .pl (.dict ds) = if plainK ds = true then .bo (.dict ds) else .cl (.dict ds) := rfl
@[simp] theorem entS_plT (ds : List D) : entS .pl (.tuple ds) = .cl (.tuple ds) := rfl
@[simp] theorem entS_plI (i : Int) : entS .pl (.int i) = .cl (.int i) := rfl
@[simp] theorem entS_plB (i : Bool) : entS .pl (.bool i) = .cl (.bool i) := rfl
@[simp] theorem entS_plN : entS .pl .none = .cl .none := rfl
@[simp] theorem entS_plS (i : Str) : entS .pl (.str i) = .cl (.str i) := rfl
@[simp] theorem entA_nil : entA [] [] = [] := rfl
@[simp] theorem entA_cons (m : Md) (ms : List Md) (d : D) (ds : List D) : entA (m :: ms) (d :: ds) = entS m d :: entA ms ds := rfl
@[simp] theorem leS_le (d : D) : leS (some (.le d)) = some d := rfl
@[simp] theorem outsA_nil (ρ : Ev) (i : Nat) : outsA ρ [] i = some [] := rfl
@[simp] theorem outsA_mu (ρ : Ev) (ms : List Md) (i : Nat) : outsA ρ (.mu :: ms) i = (leS ρ[i]?).bind fun d => (outsA ρ ms (i + 1)).bind fun r => some (d :: r) := rfl
@[simp] theorem outsA_pl (ρ : Ev) (ms : List Md) (i : Nat) : outsA ρ (.pl :: ms) i = outsA ρ ms (i + 1) := rfl
@[simp] theorem outsA_kp (ρ : Ev) (ms : List Md) (i : Nat) : outsA ρ (.kp :: ms) i = outsA ρ ms (i + 1) := rfl
@[simp] theorem resO_val (ρ : Ev) (d : D) : resO ρ (.val d) = some (false, d) := rfl
@[simp] theorem resO_fr (ρ : Ev) (d : D) : resO ρ (.fr d) = some (true, d) := rfl
@[simp] theorem resO_sl (ρ : Ev) (i : Nat) : resO ρ (.sl i) = (match ρ[i]? with
    | some (.ow d) => some (true, d)
    | some (.cl d) => some (false, d)
    | _ => none) := rfl
@[simp] theorem finR_rt (md : List Md) (x : Op) (ρ : Ev) : finR md (.ok (.rt x) ρ) = (match resO ρ x, outsA ρ md 0 with
    | some (b, d), some outs => .ok b d outs
    | _, _ => .no) := rfl
@[simp] theorem finR_nx (md : List Md) (ρ : Ev) : finR md (.ok .nx ρ) = (match outsA ρ md 0 with
    | some outs => .ok false .none outs
    | none => .no) := rfl
@[simp] theorem fSub_int (i j : Int) : fSub (.int i) (.int j) = some (.val (.int (i - j))) := rfl
@[simp] theorem fLt_int (i j : Int) : fLt (.int i) (.int j) = some (.val (.bool (decide (i < j)))) := rfl
@[simp] theorem fLe_int (i j : Int) : fLe (.int i) (.int j) = some (.val (.bool (decide (i ≤ j)))) := rfl
@[simp] theorem fGt_int (i j : Int) : fGt (.int i) (.int j) = some (.val (.bool (decide (j < i)))) := rfl
@[simp] theorem fGe_int (i j : Int) : fGe (.int i) (.int j) = some (.val (.bool (decide (j ≤ i)))) := rfl
theorem fDiv_int {i j : Int} (h : okDivW j = true) : fDiv (.int i) (.int j) = some (.val (.int (i / j))) := by
  show (if okDivW j = true then some (PyData.int (i / j)) else none).map Op.val = _
  rw [if_pos h]; rfl
theorem fMod_int {i j : Int} (h : 0 < j) : fMod (.int i) (.int j) = some (.val (.int (i % j))) := by
  show (if decide (0 < j) = true then some (PyData.int (i % j)) else none).map Op.val = _
  rw [if_pos (decide_eq_true h)]; rfl
theorem fMul_int {i j : Int} (h : okMul i j = true) : fMul (.int i) (.int j) = some (.val (.int (i * j))) := by
  show (if okMul i j = true then some (PyData.int (i * j)) else none).map Op.val = _
  rw [if_pos h]; rfl
theorem fPow_int {i j : Int} (h : okPow i j = true) : fPow (.int i) (.int j) = some (.val (.int (i ^ j.toNat))) := by
  show (if okPow i j = true then some (PyData.int (i ^ j.toNat)) else none).map Op.val = _
  rw [if_pos h]; rfl
theorem fShl_int {i j : Int} (h : okPow i j = true) : fShl (.int i) (.int j) = some (.val (.int (i * 2 ^ j.toNat))) := by
  show (if okPow i j = true then some (PyData.int (i * 2 ^ j.toNat)) else none).map Op.val = _
  rw [if_pos h]; rfl
/-- data of depth n at most, without dicts, with plain texts alone -/
def Shp (n : Nat) (d : D) : Prop := d.canLay0 = true ∧ d.depth ≤ n
theorem Shp.int (n : Nat) (i : Int) : Shp n (.int i) := ⟨by simp [PyData.canLay0], by simp [PyData.depth]⟩
theorem Shp.bool (n : Nat) (i : Bool) : Shp n (.bool i) := ⟨by simp [PyData.canLay0], by simp [PyData.depth]⟩
theorem Shp.none (n : Nat) : Shp n .none := ⟨by simp [PyData.canLay0], by simp [PyData.depth]⟩
theorem canLayAll_of : ∀ {ds : List D}, (∀ d ∈ ds, d.canLay0 = true) → PyData.canLayAll0 ds = true
  | [], _ => by simp [PyData.canLayAll0]
  | d :: ds, h => by
    have h1 := h d List.mem_cons_self
    have h2 := canLayAll_of fun x hx => h x (List.mem_cons_of_mem _ hx)
    simp [PyData.canLayAll0, h1, h2]
theorem depthAll_of {n : Nat} : ∀ {ds : List D}, (∀ d ∈ ds, d.depth ≤ n) → PyData.depthAll ds ≤ n
  | [], _ => by simp [PyData.depthAll]
  | d :: ds, h => by
    have h1 := h d List.mem_cons_self
    have h2 := depthAll_of fun x hx => h x (List.mem_cons_of_mem _ hx)
    simp only [PyData.depthAll]
    omega
theorem Shp.tup {n : Nat} {ds : List D} (h : ∀ d ∈ ds, Shp n d) : Shp (n + 1) (.tuple ds) :=
  ⟨by simp only [PyData.canLay0]; exact canLayAll_of fun d hd => (h d hd).1, by simp only [PyData.depth]; have := depthAll_of fun d hd => (h d hd).2; omega⟩
theorem Shp.lst {n : Nat} {ds : List D} (h : ∀ d ∈ ds, Shp n d) : Shp (n + 1) (.list ds) :=
  ⟨by simp only [PyData.canLay0]; exact canLayAll_of fun d hd => (h d hd).1, by simp only [PyData.depth]; have := depthAll_of fun d hd => (h d hd).2; omega⟩
theorem Shp.mono {n m : Nat} {d : D} (h : Shp n d) (l : n ≤ m) : Shp m d := ⟨h.1, Nat.le_trans h.2 l⟩
theorem Shp.ok {n : Nat} {d : D} (h : Shp n d) (l : n ≤ 64) : okS d = true := Bool.and_eq_true_iff.mpr ⟨h.1, decide_eq_true (Nat.le_trans h.2 l)⟩
@[simp] theorem okS_int (i : Int) : okS (.int i) = true := (Shp.int 0 i).ok (by decide)
@[simp] theorem okS_bool (i : Bool) : okS (.bool i) = true := (Shp.bool 0 i).ok (by decide)
@[simp] theorem okS_none : okS .none = true := (Shp.none 0).ok (by decide)
theorem fEq_of {a b : D} (ha : okS a = true) (hb : okS b = true) : fEq a b = some (.val (.bool (PyData.eqv a b))) := by
  unfold fEq; rw [ha, hb]; rfl
theorem fNe_of {a b : D} (ha : okS a = true) (hb : okS b = true) : fNe a b = some (.val (.bool (!PyData.eqv a b))) := by
  unfold fNe; rw [ha, hb]; rfl
@[simp] theorem eqv_int (i j : Int) : PyData.eqv (.int i) (.int j) = decide (i = j) := by
  simp only [PyData.eqv]
  by_cases h : i = j <;> simp [h]
@[simp] theorem fEq_int (i j : Int) : fEq (.int i) (.int j) = some (.val (.bool (decide (i = j)))) := by
  rw [fEq_of (okS_int i) (okS_int j), eqv_int]
@[simp] theorem fNe_int (i j : Int) : fNe (.int i) (.int j) = some (.val (.bool (!decide (i = j)))) := by
  rw [fNe_of (okS_int i) (okS_int j), eqv_int]
mutual
theorem eqv_refl : ∀ d : D, d.canLay0 = true → PyData.eqv d d = true
  | .none, _ => by simp [PyData.eqv]
  | .bool b, _ => by simp [PyData.eqv]
  | .int i, _ => by simp [PyData.eqv]
  | .str x, _ => by simp [PyData.eqv]
  | .list ds, h => by simp only [PyData.eqv]; exact eqvAll_refl ds (by simpa [PyData.canLay0] using h)
  | .tuple ds, h => by simp only [PyData.eqv]; exact eqvAll_refl ds (by simpa [PyData.canLay0] using h)
  | .dict _, h => by simp [PyData.canLay0] at h
theorem eqvAll_refl : ∀ ds : List D, PyData.canLayAll0 ds = true → PyData.eqvAll ds ds = true
  | [], _ => by simp [PyData.eqvAll]
  | d :: ds, h => by
    have h : (d.canLay0 && PyData.canLayAll0 ds) = true := by simpa [PyData.canLayAll0] using h
    obtain ⟨h1, h2⟩ := Bool.and_eq_true_iff.mp h
    simp only [PyData.eqvAll, eqv_refl d h1, eqvAll_refl ds h2, Bool.and_self]
end
theorem eqvAll_ints : ∀ (a b : List Int), PyData.eqvAll (a.map .int) (b.map .int) = decide (a = b)
  | [], [] => by simp [PyData.eqvAll]
  | [], _ :: _ => by simp [PyData.eqvAll]
  | _ :: _, [] => by simp [PyData.eqvAll]
  | x :: a, y :: b => by
    simp only [List.map_cons, PyData.eqvAll, eqvAll_ints a b, eqv_int]
    by_cases h1 : x = y <;> by_cases h2 : a = b <;> simp [h1, h2]
/-- a tuple of ints -/
abbrev encI (c : List Int) : D := .tuple (c.map .int)
theorem shp_I (c : List Int) : Shp 1 (encI c) := Shp.tup fun d hd => by
  obtain ⟨i, _, e⟩ := List.mem_map.mp hd
  subst e; exact Shp.int 0 i
theorem eqv_I (a b : List Int) : PyData.eqv (encI a) (encI b) = decide (a = b) := by
  simp only [PyData.eqv]; exact eqvAll_ints a b
theorem fEq_I (a b : List Int) : fEq (encI a) (encI b) = some (.val (.bool (decide (a = b)))) := by
  rw [fEq_of ((shp_I a).ok (by decide)) ((shp_I b).ok (by decide)), eqv_I]
theorem fNe_I (a b : List Int) : fNe (encI a) (encI b) = some (.val (.bool (!decide (a = b)))) := by
  rw [fNe_of ((shp_I a).ok (by decide)) ((shp_I b).ok (by decide)), eqv_I]
theorem fEq_refl {n : Nat} {d : D} (h : Shp n d) (l : n ≤ 64) : fEq d d = some (.val (.bool true)) := by
  rw [fEq_of (h.ok l) (h.ok l), eqv_refl d h.1]
theorem fNe_refl {n : Nat} {d : D} (h : Shp n d) (l : n ≤ 64) : fNe d d = some (.val (.bool false)) := by
  rw [fNe_of (h.ok l) (h.ok l), eqv_refl d h.1]; rfl
@[simp] theorem fLen_list (ds : List D) : fLen (.list ds) = some (.val (.int ds.length)) := rfl
@[simp] theorem fLen_tup (ds : List D) : fLen (.tuple ds) = some (.val (.int ds.length)) := rfl
/-- a loop that runs through -/
theorem forI_inv {t : Tg} {b : M Fl} {P : Nat → Ev → Prop} : ∀ (ds : List D) (k : Nat) (ρ : Ev), P k ρ → (∀ i d ρ, ds[i]? = some d → P (k + i) ρ → ∃ ρ1 ρ2, t d ρ = some ρ1 ∧ (b ρ1 = .ok .nx ρ2 ∨ b ρ1 = .ok .ct ρ2) ∧ P (k + i + 1) ρ2) → ∃ ρ', forI t b ds ρ = .ok .nx ρ' ∧ P (k + ds.length) ρ'
  | [], k, ρ, h0, _ => ⟨ρ, rfl, h0⟩
  | d :: ds, k, ρ, h0, h => by
    obtain ⟨ρ1, ρ2, e1, e2, p⟩ := h 0 d ρ rfl h0
    obtain ⟨ρ', q1, q2⟩ := forI_inv ds (k + 1) ρ2 p fun i d' ρ hd hp => by
      have := h (i + 1) d' ρ hd (by rw [show k + (i + 1) = k + 1 + i by omega]; exact hp)
      rwa [show k + (i + 1) + 1 = k + 1 + i + 1 by omega] at this
    refine ⟨ρ', ?_, by rw [List.length_cons, show k + (ds.length + 1) = k + 1 + ds.length by omega]; exact q2⟩
    unfold forI
    rw [e1]
    rcases e2 with e2 | e2 <;> (dsimp only; rw [e2]; exact q1)
/-- a while that runs through: P holds at each turn's beginning, the measure falls -/
theorem whI_inv {c : M Bool} {b : M Fl} {P : Nat → Ev → Prop} {Q : Ev → Prop} (h : ∀ m ρ, P m ρ → (∃ ρ1, c ρ = .ok false ρ1 ∧ Q ρ1) ∨ ∃ m', m = m' + 1 ∧ ∃ ρ1 ρ2, c ρ = .ok true ρ1 ∧ (b ρ1 = .ok .nx ρ2 ∨ b ρ1 = .ok .ct ρ2) ∧ P m' ρ2) :
    ∀ (m n : Nat) (ρ : Ev), m < n → P m ρ → ∃ ρ', whI c b n ρ = .ok .nx ρ' ∧ Q ρ'
  | m, 0, ρ, hn, _ => absurd hn (Nat.not_lt_zero _)
  | m, n + 1, ρ, hn, p => by
    rcases h m ρ p with ⟨ρ1, e, q⟩ | ⟨m', em, ρ1, ρ2, e, e2, p2⟩
    · refine ⟨ρ1, ?_, q⟩
      unfold whI
      rw [e]; rfl
    · obtain ⟨ρ', q1, q2⟩ := whI_inv h m' n ρ2 (by omega) p2
      refine ⟨ρ', ?_, q2⟩
      unfold whI
      rw [e, Rs.bind_ok, if_pos rfl]
      rcases e2 with e2 | e2 <;> (rw [e2]; exact q1)
end Vx
set_option maxHeartbeats 2000000
namespace Vx
open PySem PySem.Spec L2
theorem bkS_same {ρ ρ' : Ev} {vs : List Nat} (h : unS ρ' vs = unS ρ vs) : bkS ρ ρ' vs = ρ := by
  have hl : ρ'.length = ρ.length := by
    have := congrArg List.length h
    rwa [unS_len, unS_len] at this
  refine List.ext_getElem? fun i => ?_
  by_cases hv : i ∈ vs
  · by_cases hi : i < ρ.length
    · rw [bkS_in ρ ρ' (by rw [hl]; exact hi) hv, List.getElem?_eq_getElem hi]; rfl
    · rw [List.getElem?_eq_none (by rw [bkS_len, hl]; omega), List.getElem?_eq_none (by omega)]
  · rw [bkS_out ρ ρ' hv, ← unS_out ρ' hv, h, unS_out ρ hv]
section
variable {t : Tg} {tt : M Bool} {e : M Op} {vs : List Nat} {it : M (List D)}
/-- a comprehension whose parts leave the environment as it is -/
theorem lcI_pure {ρ1 : Ev} {p : D → Bool} {f : D → D} : ∀ (ds acc : List D) (ρ : Ev), unS ρ vs = unS ρ1 vs → acc.length + ds.length ≤ sizeLine →
    (∀ d ∈ ds, ∃ ρd, t d (unS ρ1 vs) = some ρd ∧ unS ρd vs = unS ρ1 vs ∧ tt ρd = .ok (p d) ρd ∧ (p d = true → mK e ρd = .ok (f d) ρd)) → ∃ ρ', lcI t tt e vs ds acc ρ = .ok (acc ++ (ds.filter p).map f) ρ' ∧ unS ρ' vs = unS ρ1 vs
  | [], acc, ρ, hu, _, _ => ⟨ρ, by unfold lcI; simp, hu⟩
  | d :: ds, acc, ρ, hu, hz, h => by
    obtain ⟨ρd, e1, e2, e3, e4⟩ := h d List.mem_cons_self
    have hr := fun x hx => h x (List.mem_cons_of_mem _ hx)
    unfold lcI
    rw [hu, e1]
    dsimp only
    rw [e3]
    cases hp : p d with
    | false =>
      dsimp only
      obtain ⟨ρ', q1, q2⟩ := lcI_pure ds acc ρd e2 (by simp at hz; omega) hr
      exact ⟨ρ', by rw [q1, List.filter_cons_of_neg (by rw [hp]; exact Bool.false_ne_true)], q2⟩
    | true =>
      dsimp only
      rw [e4 hp]
      dsimp only
      rw [if_pos (by simp at hz; omega)]
      obtain ⟨ρ', q1, q2⟩ := lcI_pure ds (acc ++ [f d]) ρd e2 (by simp at hz ⊢; omega) hr
      exact ⟨ρ', by rw [q1, List.filter_cons_of_pos hp, List.map_cons, List.append_assoc]; rfl, q2⟩
theorem mLc_pure {ρ ρ1 : Ev} {ds : List D} (p : D → Bool) (f : D → D) (hi : it ρ = .ok ds ρ1) (hw : (vs.all fun v => wipable ρ1[v]?) = true) (hz : ds.length ≤ sizeLine)
    (h : ∀ d ∈ ds, ∃ ρd, t d (unS ρ1 vs) = some ρd ∧ unS ρd vs = unS ρ1 vs ∧ tt ρd = .ok (p d) ρd ∧ (p d = true → mK e ρd = .ok (f d) ρd)) : mLc it t tt e vs ρ = .ok (.fr (.list ((ds.filter p).map f))) ρ1 := by
  obtain ⟨ρ', q1, q2⟩ := lcI_pure ds [] ρ1 rfl (by simpa using hz) h
  unfold mLc
  rw [hi, Rs.bind_ok, if_pos hw, q1]
  dsimp only
  rw [bkS_same q2, List.nil_append]
/-- one name, no test -/
theorem mLc_map {v : Nat} {ρ ρ1 : Ev} {ds : List D} (f : D → D) (hi : it ρ = .ok ds ρ1) (hw : wipable ρ1[v]? = true) (hz : ds.length ≤ sizeLine) (h : ∀ d ∈ ds, mK e (ρ1.set v (.cl d)) = .ok (f d) (ρ1.set v (.cl d))) :
    mLc it (tName v) tYesM e [v] ρ = .ok (.fr (.list (ds.map f))) ρ1 := by
  have hv : v < ρ1.length := by
    obtain ⟨_, x, e⟩ := wip_own hw
    exact (List.getElem?_eq_some_iff.mp e).1
  have := mLc_pure (it := it) (t := tName v) (tt := tYesM) (e := e) (vs := [v]) (ρ := ρ) (fun _ => true) f hi (by simp [hw]) hz fun d hd => ⟨ρ1.set v (.cl d), ?_, ?_, rfl, fun _ => h d hd⟩
  · rw [this, List.filter_eq_self.mpr fun _ _ => rfl]
  · show (if free (ρ1.set v .un)[v]? = true then some ((ρ1.set v .un).set v (.cl d)) else none) = _
    rw [List.getElem?_set_self hv, free_un, if_pos rfl, List.set_set]
  · show (ρ1.set v (.cl d)).set v .un = ρ1.set v .un
    rw [List.set_set]
/-- one name, a test -/
theorem mLc_filter {v : Nat} {ρ ρ1 : Ev} {ds : List D} (p : D → Bool) (f : D → D) (hi : it ρ = .ok ds ρ1) (hw : wipable ρ1[v]? = true) (hz : ds.length ≤ sizeLine)
    (ht : ∀ d ∈ ds, tt (ρ1.set v (.cl d)) = .ok (p d) (ρ1.set v (.cl d))) (h : ∀ d ∈ ds, p d = true → mK e (ρ1.set v (.cl d)) = .ok (f d) (ρ1.set v (.cl d))) :
    mLc it (tName v) tt e [v] ρ = .ok (.fr (.list ((ds.filter p).map f))) ρ1 := by
  have hv : v < ρ1.length := by
    obtain ⟨_, x, e⟩ := wip_own hw
    exact (List.getElem?_eq_some_iff.mp e).1
  refine mLc_pure (vs := [v]) p f hi (by simp [hw]) hz fun d hd => ⟨ρ1.set v (.cl d), ?_, ?_, ht d hd, h d hd⟩
  · show (if free (ρ1.set v .un)[v]? = true then some ((ρ1.set v .un).set v (.cl d)) else none) = _
    rw [List.getElem?_set_self hv, free_un, if_pos rfl, List.set_set]
  · show (ρ1.set v (.cl d)).set v .un = ρ1.set v .un
    rw [List.set_set]
/-- two names of a pair -/
theorem mLc_pair {v u : Nat} {ρ ρ1 : Ev} {ds : List D} (p : D → Bool) (f : D → D) (hi : it ρ = .ok ds ρ1) (hvu : v ≠ u) (hw : wipable ρ1[v]? = true) (hw2 : wipable ρ1[u]? = true) (hz : ds.length ≤ sizeLine)
    (h : ∀ d ∈ ds, ∃ a b, d = .tuple [a, b] ∧ tt ((ρ1.set v (.cl a)).set u (.cl b)) = .ok (p d) ((ρ1.set v (.cl a)).set u (.cl b)) ∧ (p d = true → mK e ((ρ1.set v (.cl a)).set u (.cl b)) = .ok (f d) ((ρ1.set v (.cl a)).set u (.cl b)))) :
    mLc it (tTup (tsCons (tName v) (tsCons (tName u) tsNil))) tt e [v, u] ρ = .ok (.fr (.list ((ds.filter p).map f))) ρ1 := by
  have hv : v < ρ1.length := by
    obtain ⟨_, x, e⟩ := wip_own hw
    exact (List.getElem?_eq_some_iff.mp e).1
  have hu : u < ρ1.length := by
    obtain ⟨_, x, e⟩ := wip_own hw2
    exact (List.getElem?_eq_some_iff.mp e).1
  refine mLc_pure (vs := [v, u]) p f hi (by simp [hw, hw2]) hz fun d hd => ?_
  obtain ⟨a, b, ed, h1, h2⟩ := h d hd
  subst ed
  refine ⟨(ρ1.set v (.cl a)).set u (.cl b), ?_, ?_, h1, h2⟩
  · have e1 : unS ρ1 [v, u] = (ρ1.set u .un).set v .un := rfl
    rw [e1, ev_tTup, ev_tsCons, ev_tName, List.getElem?_set_self (by simpa using hv), free_un, if_pos rfl]
    show ((tsCons (tName u) tsNil) [b] (((ρ1.set u .un).set v .un).set v (.cl a))) = _
    rw [ev_tsCons, ev_tName, List.getElem?_set_ne hvu, List.getElem?_set_ne hvu, List.getElem?_set_self hu, free_un, if_pos rfl]
    show some _ = _
    congr 1
    rw [List.set_set]
    rw [List.set_comm _ _ hvu.symm, List.set_set]
  · show (((ρ1.set v (.cl a)).set u (.cl b)).set u .un).set v .un = (ρ1.set u .un).set v .un
    rw [List.set_set, List.set_comm _ _ hvu.symm, List.set_set, List.set_comm _ _ hvu]
end
section
variable {α : Type} {t : Tg} {tt : M Bool} {e : M Op} {vs : List Nat} {it : M (List D)} (enc : α → D) (p : α → Bool) (f : α → D)
theorem lcI_enc {ρ1 : Ev} : ∀ (l : List α) (acc : List D) (ρ : Ev), unS ρ vs = unS ρ1 vs → acc.length + l.length ≤ sizeLine →
    (∀ a ∈ l, ∃ ρd, t (enc a) (unS ρ1 vs) = some ρd ∧ unS ρd vs = unS ρ1 vs ∧ tt ρd = .ok (p a) ρd ∧ (p a = true → mK e ρd = .ok (f a) ρd)) → ∃ ρ', lcI t tt e vs (l.map enc) acc ρ = .ok (acc ++ (l.filter p).map f) ρ' ∧ unS ρ' vs = unS ρ1 vs
  | [], acc, ρ, hu, _, _ => ⟨ρ, by rw [List.map_nil]; unfold lcI; simp, hu⟩
  | a :: l, acc, ρ, hu, hz, h => by
    obtain ⟨ρd, e1, e2, e3, e4⟩ := h a List.mem_cons_self
    have hr := fun x hx => h x (List.mem_cons_of_mem _ hx)
    rw [List.map_cons]
    unfold lcI
    rw [hu, e1]
    dsimp only
    rw [e3]
    cases hp : p a with
    | false =>
      dsimp only
      obtain ⟨ρ', q1, q2⟩ := lcI_enc l acc ρd e2 (by simp at hz; omega) hr
      exact ⟨ρ', by rw [q1, List.filter_cons_of_neg (by rw [hp]; exact Bool.false_ne_true)], q2⟩
    | true =>
      dsimp only
      rw [e4 hp]
      dsimp only
      rw [if_pos (by simp at hz; omega)]
      obtain ⟨ρ', q1, q2⟩ := lcI_enc l (acc ++ [f a]) ρd e2 (by simp at hz ⊢; omega) hr
      exact ⟨ρ', by rw [q1, List.filter_cons_of_pos hp, List.map_cons, List.append_assoc]; rfl, q2⟩
theorem mLc_enc {ρ ρ1 : Ev} {l : List α} (hi : it ρ = .ok (l.map enc) ρ1) (hw : (vs.all fun v => wipable ρ1[v]?) = true) (hz : l.length ≤ sizeLine)
    (h : ∀ a ∈ l, ∃ ρd, t (enc a) (unS ρ1 vs) = some ρd ∧ unS ρd vs = unS ρ1 vs ∧ tt ρd = .ok (p a) ρd ∧ (p a = true → mK e ρd = .ok (f a) ρd)) : mLc it t tt e vs ρ = .ok (.fr (.list ((l.filter p).map f))) ρ1 := by
  obtain ⟨ρ', q1, q2⟩ := lcI_enc enc p f l [] ρ1 rfl (by simpa using hz) h
  unfold mLc
  rw [hi, Rs.bind_ok, if_pos hw, q1]
  dsimp only
  rw [bkS_same q2, List.nil_append]
theorem set1 {v : Nat} {ρ1 : Ev} {d : D} (hw : wipable ρ1[v]? = true) : tName v d (unS ρ1 [v]) = some (ρ1.set v (.cl d)) ∧ unS (ρ1.set v (.cl d)) [v] = unS ρ1 [v] := by
  have hv : v < ρ1.length := by
    obtain ⟨_, x, e⟩ := wip_own hw
    exact (List.getElem?_eq_some_iff.mp e).1
  constructor
  · show (if free (ρ1.set v .un)[v]? = true then some ((ρ1.set v .un).set v (.cl d)) else none) = _
    rw [List.getElem?_set_self hv, free_un, if_pos rfl, List.set_set]
  · show (ρ1.set v (.cl d)).set v .un = ρ1.set v .un
    rw [List.set_set]
theorem mLc_encF {v : Nat} {ρ ρ1 : Ev} {l : List α} (hi : it ρ = .ok (l.map enc) ρ1) (hw : wipable ρ1[v]? = true) (hz : l.length ≤ sizeLine)
    (ht : ∀ a ∈ l, tt (ρ1.set v (.cl (enc a))) = .ok (p a) (ρ1.set v (.cl (enc a)))) (h : ∀ a ∈ l, p a = true → mK e (ρ1.set v (.cl (enc a))) = .ok (f a) (ρ1.set v (.cl (enc a)))) :
    mLc it (tName v) tt e [v] ρ = .ok (.fr (.list ((l.filter p).map f))) ρ1 :=
  mLc_enc (vs := [v]) enc p f hi (by simp [hw]) hz fun a ha => ⟨_, (set1 hw).1, (set1 hw).2, ht a ha, h a ha⟩
theorem mLc_encM {v : Nat} {ρ ρ1 : Ev} {l : List α} (hi : it ρ = .ok (l.map enc) ρ1) (hw : wipable ρ1[v]? = true) (hz : l.length ≤ sizeLine) (h : ∀ a ∈ l, mK e (ρ1.set v (.cl (enc a))) = .ok (f a) (ρ1.set v (.cl (enc a)))) :
    mLc it (tName v) tYesM e [v] ρ = .ok (.fr (.list (l.map f))) ρ1 := by
  rw [mLc_encF (tt := tYesM) enc (fun _ => true) f hi hw hz (fun _ _ => rfl) fun a ha _ => h a ha, List.filter_eq_self.mpr fun _ _ => rfl]
theorem set2 {v u : Nat} {ρ1 : Ev} {a b : D} (hvu : v ≠ u) (hw : wipable ρ1[v]? = true) (hw2 : wipable ρ1[u]? = true) :
    tTup (tsCons (tName v) (tsCons (tName u) tsNil)) (.tuple [a, b]) (unS ρ1 [v, u]) = some ((ρ1.set v (.cl a)).set u (.cl b)) ∧ unS ((ρ1.set v (.cl a)).set u (.cl b)) [v, u] = unS ρ1 [v, u] := by
  have hv : v < ρ1.length := by
    obtain ⟨_, x, e⟩ := wip_own hw
    exact (List.getElem?_eq_some_iff.mp e).1
  have hu : u < ρ1.length := by
    obtain ⟨_, x, e⟩ := wip_own hw2
    exact (List.getElem?_eq_some_iff.mp e).1
  constructor
  · have e1 : unS ρ1 [v, u] = (ρ1.set u .un).set v .un := rfl
    rw [e1, ev_tTup, ev_tsCons, ev_tName, List.getElem?_set_self (by simpa using hv), free_un, if_pos rfl]
    show ((tsCons (tName u) tsNil) [b] (((ρ1.set u .un).set v .un).set v (.cl a))) = _
    rw [ev_tsCons, ev_tName, List.getElem?_set_ne hvu, List.getElem?_set_ne hvu, List.getElem?_set_self hu, free_un, if_pos rfl]
    show some _ = _
    congr 1
    rw [List.set_set]
    rw [List.set_comm _ _ hvu.symm, List.set_set]
  · show (((ρ1.set v (.cl a)).set u (.cl b)).set u .un).set v .un = (ρ1.set u .un).set v .un
    rw [List.set_set, List.set_comm _ _ hvu.symm, List.set_set, List.set_comm _ _ hvu]
theorem mLc_enc2 {β γ : Type} {v u : Nat} {ρ ρ1 : Ev} {l : List (β × γ)} (eb : β → D) (ec : γ → D) (p : β × γ → Bool) (f : β × γ → D) (hi : it ρ = .ok (l.map fun q => .tuple [eb q.1, ec q.2]) ρ1) (hvu : v ≠ u) (hw : wipable ρ1[v]? = true) (hw2 : wipable ρ1[u]? = true) (hz : l.length ≤ sizeLine)
    (ht : ∀ q ∈ l, tt ((ρ1.set v (.cl (eb q.1))).set u (.cl (ec q.2))) = .ok (p q) ((ρ1.set v (.cl (eb q.1))).set u (.cl (ec q.2)))) (h : ∀ q ∈ l, p q = true → mK e ((ρ1.set v (.cl (eb q.1))).set u (.cl (ec q.2))) = .ok (f q) ((ρ1.set v (.cl (eb q.1))).set u (.cl (ec q.2)))) :
    mLc it (tTup (tsCons (tName v) (tsCons (tName u) tsNil))) tt e [v, u] ρ = .ok (.fr (.list ((l.filter p).map f))) ρ1 :=
  mLc_enc (vs := [v, u]) (fun q => .tuple [eb q.1, ec q.2]) p f hi (by simp [hw, hw2]) hz fun q hq => ⟨_, (set2 hvu hw hw2).1, (set2 hvu hw hw2).2, ht q hq, h q hq⟩
theorem mLc_enc2M {β γ : Type} {v u : Nat} {ρ ρ1 : Ev} {l : List (β × γ)} (eb : β → D) (ec : γ → D) (f : β × γ → D) (hi : it ρ = .ok (l.map fun q => .tuple [eb q.1, ec q.2]) ρ1) (hvu : v ≠ u) (hw : wipable ρ1[v]? = true) (hw2 : wipable ρ1[u]? = true) (hz : l.length ≤ sizeLine)
    (h : ∀ q ∈ l, mK e ((ρ1.set v (.cl (eb q.1))).set u (.cl (ec q.2))) = .ok (f q) ((ρ1.set v (.cl (eb q.1))).set u (.cl (ec q.2)))) :
    mLc it (tTup (tsCons (tName v) (tsCons (tName u) tsNil))) tYesM e [v, u] ρ = .ok (.fr (.list (l.map f))) ρ1 := by
  rw [mLc_enc2 (tt := tYesM) eb ec (fun _ => true) f hi hvu hw hw2 hz (fun _ _ => rfl) fun a ha _ => h a ha, List.filter_eq_self.mpr fun _ _ => rfl]
theorem zip_enc {β γ : Type} (eb : β → D) (ec : γ → D) (a : List β) (b : List γ) : zipD (a.map eb) (b.map ec) = (a.zip b).map fun q => .tuple [eb q.1, ec q.2] := by
  unfold zipD
  induction a generalizing b with
  | nil => simp
  | cons x a ih => cases b with
    | nil => simp
    | cons y b => simp [ih]
theorem enum_enc (f : α → D) : ∀ (l : List α) (k : Nat), enumD k (l.map f) = (l.zipIdx k).map fun q => .tuple [.int (q.2 : Nat), f q.1]
  | [], _ => rfl
  | a :: l, k => by
    rw [List.map_cons, List.zipIdx_cons, List.map_cons, ← enum_enc f l (k + 1)]; rfl
end
/-- how great -/
def absI (i : Int) : Int := if i < 0 then -i else i
@[simp] theorem fAbs_A (i : Int) : fAbs (.int i) = some (.val (.int (absI i))) := rfl
theorem absI_nn (i : Int) : 0 ≤ absI i := by unfold absI; split <;> omega
theorem absI_neg (i : Int) : absI (-i) = absI i := by unfold absI; split <;> split <;> omega
theorem absI_pos {i : Int} (h : i ≠ 0) : 0 < absI i := by unfold absI; split <;> omega
theorem atI_pos {α : Type} (xs : List α) {i : Int} (h : 0 ≤ i) : atI xs i = xs[i.toNat]? := by
  unfold atI ixN
  rw [if_pos h]
  by_cases c : i < xs.length
  · rw [if_pos c]; rfl
  · rw [if_neg c, List.getElem?_eq_none (by omega)]; rfl
@[simp] theorem atI_0 {α : Type} (xs : List α) : atI xs 0 = xs[0]? := atI_pos xs (by decide)
@[simp] theorem atI_1 {α : Type} (xs : List α) : atI xs 1 = xs[1]? := atI_pos xs (by decide)
@[simp] theorem atI_2 {α : Type} (xs : List α) : atI xs 2 = xs[2]? := atI_pos xs (by decide)
@[simp] theorem atI_3 {α : Type} (xs : List α) : atI xs 3 = xs[3]? := atI_pos xs (by decide)
@[simp] theorem atI_4 {α : Type} (xs : List α) : atI xs 4 = xs[4]? := atI_pos xs (by decide)
@[simp] theorem atI_nat {α : Type} (xs : List α) (k : Nat) : atI xs (k : Int) = xs[k]? := atI_pos xs (Int.natCast_nonneg k)
theorem ixN_pos {n : Nat} {i : Int} (h : 0 ≤ i) (h2 : i < n) : ixN n i = some i.toNat := by
  unfold ixN
  rw [if_pos h, if_pos h2]
@[simp] theorem ev_SetIx (i : Nat) (mk : M D) (mi : M Op) (ρ : Ev) : sSetIx i mk mi ρ = (mk ρ).bind fun d ρ1 => if (lsS ρ1[i]?).isSome = true then (mi ρ1).bind fun y ρ2 => oNx ((rd ρ2 y).bind fun yd => (isI yd).bind fun k => (lsS ρ2[i]?).bind fun ds => (ixN ds.length k).bind fun j => putA [i] [.list (ds.set j d)] ρ2) else .no := rfl
@[simp] theorem ev_App (i : Nat) (mk : M D) (ρ : Ev) : meApp i mk ρ = if (lsS ρ[i]?).isSome = true then (mk ρ).bind fun d ρ1 => meApp.opt2 ρ1 ((lsS ρ1[i]?).bind fun ds => if ds.length < sizeLine then (putA [i] [.list (ds ++ [d])] ρ1).map fun ρ2 => (.val .none, ρ2) else none) else .no := rfl
@[simp] theorem ev_opt2s (ρ1 ρ2 : Ev) (x : Op) : meApp.opt2 ρ1 (some (x, ρ2)) = .ok x ρ2 := rfl
@[simp] theorem ev_opt2n (ρ1 : Ev) : meApp.opt2 ρ1 none = .no := rfl
@[simp] theorem ev_Ext (i : Nat) (ma : M Op) (ρ : Ev) : meExt i ma ρ = if (lsS ρ[i]?).isSome = true then (ma ρ).bind fun x ρ1 => optE ((lsS ρ1[i]?).bind fun ds => (meExt.rdL ρ1 x).bind fun es => if ds.length + es.length ≤ sizeLine then (putA [i] [.list (ds ++ es)] ρ1).map fun ρ2 => (Op.val .none, ρ2) else none) else .no := rfl
@[simp] theorem ev_rdLf (ρ1 : Ev) (es : List D) : meExt.rdL ρ1 (.fr (.list es)) = some es := rfl
@[simp] theorem ev_rdLs (ρ1 : Ev) (j : Nat) : meExt.rdL ρ1 (.sl j) = lsS ρ1[j]? := rfl
@[simp] theorem ev_PopAt (i : Nat) (ma : M Op) (ρ : Ev) : mePopAt i ma ρ = if (lsS ρ[i]?).isSome = true then (ma ρ).bind fun x ρ1 => optE ((rd ρ1 x).bind fun y => (isI y).bind fun k => (lsS ρ1[i]?).bind fun ds => if okIx k = true then (seqIndex? k ds.length).bind fun j => (ds[j]?).bind fun d => (putA [i] [.list (ds.eraseIdx j)] ρ1).map fun ρ2 => (Op.val d, ρ2) else none) else .no := rfl
theorem seqIx {r : Int} {n : Nat} (h : 0 ≤ r) (h2 : r < n) : seqIndex? r n = some r.toNat := by
  unfold seqIndex?
  have h3 : ¬ r < 0 := by omega
  simp [h3, h, h2]
theorem okIx_of {r : Int} (h : 0 ≤ r) (h2 : r < 1000000) : okIx r = true := by
  simp only [okIx, Bool.and_eq_true, decide_eq_true_eq]
  omega
section
variable (ρ : Ev)
@[simp] theorem ev_Ki (ma : M Op) : mKi ma ρ = (ma ρ).bind fun x ρ1 => optE (kpi ρ1 x) := rfl
@[simp] theorem ev_kiNil : kiNil ρ = .ok [] ρ := rfl
@[simp] theorem ev_kiCons (ma : M Op) (as : M (List D)) : kiCons ma as ρ = (mKi ma ρ).bind fun x ρ1 => (as ρ1).bind fun xs ρ2 => .ok (x :: xs) ρ2 := rfl
@[simp] theorem ev_iFnK (f : List D → Option (List D)) (as : M (List D)) : iFnK f as ρ = (as ρ).bind fun xs ρ1 => opt ρ1 (f xs) := rfl
@[simp] theorem ev_iFn (f : List D → Option (List D)) (as : M (List Op)) : iFn f as ρ = (as ρ).bind fun xs ρ1 => opt ρ1 ((rds ρ1 xs).bind f) := rfl
@[simp] theorem ev_iSeq (ma : M Op) : iSeqM ma ρ = (mKi ma ρ).bind fun d ρ1 => opt ρ1 (itL d) := rfl
@[simp] theorem ev_Yes : tYesM ρ = .ok true ρ := rfl
@[simp] theorem ev_bNo : bNo ρ = .ok none ρ := rfl
@[simp] theorem ev_bAt (ma : M Op) : bAt ma ρ = (ma ρ).bind fun x ρ1 => opt ρ1 ((rd ρ1 x).bind fun d => (isI d).map some) := rfl
@[simp] theorem ev_Sl (f : Option Int → Option Int → D → Option Op) (ma : M Op) (ml mu : M (Option Int)) : mSl f ma ml mu ρ = (ma ρ).bind fun x ρ1 => (ml ρ1).bind fun lo ρ2 => (mu ρ2).bind fun hi ρ3 => opt ρ3 ((rd ρ3 x).bind (f lo hi)) := rfl
@[simp] theorem ev_Rg (ma mb : M Op) : mRg ma mb ρ = (ma ρ).bind fun x ρ1 => (mb ρ1).bind fun y ρ2 => opt ρ2 ((rd ρ2 x).bind fun a => (rd ρ2 y).bind fun b => (isI a).bind fun i => (isI b).bind fun j => if (mRg.okRg i && mRg.okRg j) = true then some (Op.fr (.list (rngD i (j - i).toNat))) else none) := rfl
@[simp] theorem ev_2F (f : D → D → Option Op) (ma mb : M Op) : m2F f ma mb ρ = (ma ρ).bind fun x ρ1 => (mb ρ1).bind fun y ρ2 => opt ρ2 (m2F.frO x |>.bind fun a => (rd ρ2 y).bind fun b => f a b) := rfl
@[simp] theorem ev_frO (d : D) : m2F.frO (.fr d) = some d := rfl
end
@[simp] theorem enm_list (ds : List D) : enm [.list ds] = some (enumD 0 ds) := rfl
@[simp] theorem enm_tup (ds : List D) : enm [.tuple ds] = some (enumD 0 ds) := rfl
@[simp] theorem zp_tt (a b : List D) : zp [.tuple a, .tuple b] = some (zipD a b) := rfl
@[simp] theorem zp_tl (a b : List D) : zp [.tuple a, .list b] = some (zipD a b) := rfl
@[simp] theorem zp_lt (a b : List D) : zp [.list a, .tuple b] = some (zipD a b) := rfl
@[simp] theorem zp_ll (a b : List D) : zp [.list a, .list b] = some (zipD a b) := rfl
@[simp] theorem fSl_list (lo hi : Option Int) (ds : List D) : fSl lo hi (.list ds) = some (.fr (.list (cutD ds lo hi))) := rfl
@[simp] theorem fSl_tup (lo hi : Option Int) (ds : List D) : fSl lo hi (.tuple ds) = some (.val (.tuple (cutD ds lo hi))) := rfl
theorem rng1_of {j : Int} (h : 0 ≤ j) (h2 : j < 1000000) : rng1 [.int j] = some (rngD 0 j.toNat) := by
  show (if bnd j then some (rngD 0 j.toNat) else none) = _
  rw [if_pos]
  simp only [bnd, Bool.and_eq_true, decide_eq_true_eq]; omega
@[simp] theorem eqv_bool (i j : Bool) : PyData.eqv (.bool i) (.bool j) = (i == j) := by simp only [PyData.eqv]
@[simp] theorem fEq_bool (i j : Bool) : fEq (.bool i) (.bool j) = some (.val (.bool (i == j))) := by
  rw [fEq_of (okS_bool i) (okS_bool j), eqv_bool]
@[simp] theorem fNe_bool (i j : Bool) : fNe (.bool i) (.bool j) = some (.val (.bool (!(i == j)))) := by
  rw [fNe_of (okS_bool i) (okS_bool j), eqv_bool]
@[simp] theorem fIs_none (a : D) : fIs a .none = some (.val (.bool (isNo a))) := by cases a <;> rfl
@[simp] theorem fIsNot_none (a : D) : fIsNot a .none = some (.val (.bool (!isNo a))) := by cases a <;> rfl
@[simp] theorem isNo_none : isNo .none = true := rfl
@[simp] theorem isNo_int (i : Int) : isNo (.int i) = false := rfl
@[simp] theorem isNo_bool (i : Bool) : isNo (.bool i) = false := rfl
@[simp] theorem isNo_tup (i : List D) : isNo (.tuple i) = false := rfl
@[simp] theorem isNo_list (i : List D) : isNo (.list i) = false := rfl
@[simp] theorem isNo_str (i : Str) : isNo (.str i) = false := rfl
theorem boolsD_map' {α : Type} (f : α → Bool) (l : List α) : boolsD (l.map fun x => .bool (f x)) = some (l.map f) := by
  have := boolsD_map (l.map f)
  rwa [List.map_map] at this
theorem fAll_map {α : Type} (f : α → Bool) (l : List α) : fAll (.list (l.map fun x => .bool (f x))) = some (.val (.bool (l.all f))) := by
  unfold fAll
  rw [lBools_list, boolsD_map']
  show some (Op.val (.bool ((l.map f).all id))) = _
  rw [List.all_map]; rfl
theorem fAny_map {α : Type} (f : α → Bool) (l : List α) : fAny (.list (l.map fun x => .bool (f x))) = some (.val (.bool (l.any f))) := by
  unfold fAny
  rw [lBools_list, boolsD_map']
  show some (Op.val (.bool ((l.map f).any id))) = _
  rw [List.any_map]; rfl
theorem cut_from (ds : List D) (k : Nat) : cutD ds (some (k : Int)) none = ds.drop k := by
  unfold cutD
  rw [HT.sIx_nat, HT.sIx_none]
  by_cases h : k ≤ ds.length
  · rw [Nat.min_eq_left h, List.take_of_length_le (by rw [List.length_drop]; exact Nat.le_refl _)]
  · rw [Nat.min_eq_right (by omega), List.drop_eq_nil_of_le (by omega), List.drop_eq_nil_of_le (by omega), List.take_nil]
theorem cut_to (ds : List D) (k : Nat) : cutD ds none (some (k : Int)) = ds.take k := by
  unfold cutD
  rw [HT.sIx_nat, HT.sIx_none, List.drop_zero, Nat.sub_zero]
  by_cases h : k ≤ ds.length
  · rw [Nat.min_eq_left h]
  · rw [Nat.min_eq_right (by omega), List.take_length, List.take_of_length_le (by omega)]
theorem cut_1 (ds : List D) : cutD ds (some 1) none = ds.drop 1 := cut_from ds 1
theorem cut_toI (ds : List D) {i : Int} (h : 0 ≤ i) : cutD ds none (some i) = ds.take i.toNat := by
  have := cut_to ds i.toNat
  rwa [Int.toNat_of_nonneg h] at this
theorem cut_fromI (ds : List D) {i : Int} (h : 0 ≤ i) : cutD ds (some i) none = ds.drop i.toNat := by
  have := cut_from ds i.toNat
  rwa [Int.toNat_of_nonneg h] at this
@[simp] theorem rdVs_ints (c : List Int) : rdVs (c.map .int) = some (c.map .int) := by
  induction c with
  | nil => rfl
  | cons i c ih => simp [rdVs, rdV, ih]
theorem inV_ints (i : Int) (c : List Int) : inV (.int i) (c.map .int) = decide (i ∈ c) := by
  unfold inV
  induction c with
  | nil => rfl
  | cons j c ih =>
    rw [List.map_cons, List.any_cons, ih]
    show ((j == i) || decide (i ∈ c)) = decide (i ∈ j :: c)
    by_cases h : i = j
    · subst h; simp
    · have : (j == i) = false := by simpa using fun z => h z.symm
      rw [this]; simp [h]
theorem inF_ints (i : Int) (c : List Int) : inF (.int i) (c.map .int) = some (decide (i ∈ c)) := by
  unfold inF
  rw [rdVs_ints]
  show some (inV (.int i) (c.map .int)) = _
  rw [inV_ints]
theorem fIn_I (i : Int) (c : List Int) : fIn (.int i) (encI c) = some (.val (.bool (decide (i ∈ c)))) := by
  show (inF (.int i) (c.map .int)).map _ = _
  rw [inF_ints]; rfl
theorem fNotIn_I (i : Int) (c : List Int) : fNotIn (.int i) (encI c) = some (.val (.bool (!decide (i ∈ c)))) := by
  show (inF (.int i) (c.map .int)).map _ = _
  rw [inF_ints]; rfl
theorem fIn_IL (i : Int) (c : List Int) : fIn (.int i) (.list (c.map .int)) = some (.val (.bool (decide (i ∈ c)))) := by
  show (inO (inF (.int i) (c.map .int)) _).map _ = _
  rw [inF_ints]; rfl
theorem fNotIn_IL (i : Int) (c : List Int) : fNotIn (.int i) (.list (c.map .int)) = some (.val (.bool (!decide (i ∈ c)))) := by
  show (inO (inF (.int i) (c.map .int)) _).map _ = _
  rw [inF_ints]; rfl
/-- a tuple of ints among tuples of ints -/
theorem fIn_C (a : List Int) (bs : List (List Int)) : fIn (encI a) (.list (bs.map encI)) = some (.val (.bool (decide (a ∈ bs)))) := by
  have h1 : okS (encI a) = true := (shp_I a).ok (by decide)
  have h2 : okS (.list (bs.map encI)) = true := (Shp.lst (n := 1) fun d hd => by
    obtain ⟨b, _, e⟩ := List.mem_map.mp hd
    subst e; exact shp_I b).ok (by decide)
  show (inO none (inDp (encI a) (bs.map encI))).map _ = _
  unfold inDp
  rw [h1, h2]
  show (some ((bs.map encI).any fun z => PyData.eqv z (encI a))).map _ = _
  have : ((bs.map encI).any fun z => PyData.eqv z (encI a)) = decide (a ∈ bs) := by
    induction bs with
    | nil => rfl
    | cons b bs ih =>
      have ih := ih ((Shp.lst (n := 1) fun d hd => by
        obtain ⟨b, _, e⟩ := List.mem_map.mp hd
        subst e; exact shp_I b).ok (by decide))
      rw [List.map_cons, List.any_cons, ih, eqv_I]
      by_cases h : b = a
      · subst h; simp
      · have h3 : ¬ a = b := fun z => h z.symm
        simp [h, h3]
  rw [this]; rfl
end Vx
set_option maxHeartbeats 2000000
namespace Lb
open PySem PySem.Spec L2 Vx
def m_is_integer : M Fl :=
    (sRet (mAndV (mT (m1 (fIsi ["int", "bool"]) (mV 0))) (mNotV (mT (m1 (fIsi ["bool"]) (mV 0))))))
def g_is_integer : List D → FR := runD [.pl] 0 m_is_integer
def m_two_to : M Fl :=
    (sRet (m2 fShl (mC (.int 1)) (mV 0)))
def g_two_to : List D → FR := runD [.pl] 0 m_two_to
def m_bits_of_1 : M Fl :=
    (sSeq (sDrop (meApp 2 (mK (m2 fMod (mV 0) (mC (.int 2))))))
    (sSet 0 (m2 fDiv (mV 0) (mC (.int 2)))))
def m_bits_of : M Fl :=
    (sSeq (sSet 2 (mLst kNil))
    (sSeq (sFor (iFn rng1 (aCons (mV 1) aNil)) (tName 3) m_bits_of_1)
    (sRet (mB (f1 fTuple) (aCons (m1 fRev (mV 2)) aNil)))))
def g_bits_of : List D → FR := runD [.pl, .pl] 2 m_bits_of
def m_holds_in_1 : M Op :=
    (m2 fEq (m2 fIx (mV 1) (m2 fSub (mB (f1 fAbs) (aCons (mV 2) aNil)) (mC (.int 1)))) (mB (f1 fInt) (aCons (m2 fGt (mV 2) (mC (.int 0))) aNil)))
def m_holds_in : M Fl :=
    (sRet (mB (f1 fAny) (aCons (mLc (iSeqM (mV 0)) (tName 2) tYesM m_holds_in_1 [2]) aNil)))
def g_holds_in : List D → FR := runD [.pl, .pl] 1 m_holds_in
def m__law_draw : M Fl :=
    (sSeq (sIf (mAnd (mT (m2 fEq (m2 fIx (mV 0) (mC (.int 2))) (mC (.int 0)))) (mT (m2 fLt (m2 fIx (mV 0) (mC (.int 1))) (mB (f1 fLen) (aCons (m2 fIx (mV 0) (mC (.int 0))) aNil))))) (sSeq (sSet 3 (m2 fIx (m2 fIx (mV 0) (mC (.int 0))) (m2 fIx (mV 0) (mC (.int 1)))))
    (sSeq (sSetIx 0 (mK (m2 fAdd (m2 fIx (mV 0) (mC (.int 1))) (mC (.int 1)))) (mC (.int 1)))
    (sSeq (sSetIx 0 (mK (m2 fMod (mB (f1 fInt) (aCons (m2 fAdd (m2 fAdd (m2 fMul (m2 fIx (mV 0) (mC (.int 3))) (mC (.int 69621))) (m2 fMul (mV 3) (mC (.int 48271)))) (mC (.int 17))) aNil)) (mC (.int 2147483629)))) (mC (.int 3)))
    (sIf (mT (m2 fGe (mV 3) (m2 fPow (mC (.int 10)) (mC (.int 18))))) (sSetIx 0 (mK (mV 3)) (mC (.int 2))) sNx)))) sNx)
    (sSeq (sIf (mT (m2 fGt (m2 fIx (mV 0) (mC (.int 2))) (mC (.int 0)))) (sSeq (sSet 4 (m2 fMod (mB (f1 fInt) (aCons (m2 fIx (mV 0) (mC (.int 2))) aNil)) (mV 1)))
    (sSeq (sSetIx 0 (mK (m2 fDiv (m2 fIx (mV 0) (mC (.int 2))) (mV 1))) (mC (.int 2)))
    (sRet (mV 4)))) sNx)
    (sSeq (sSetIx 0 (mK (m2 fAdd (m2 fIx (mV 0) (mC (.int 4))) (mC (.int 1)))) (mC (.int 4)))
    (sSeq (sSet 2 (m2 fMod (mB (f1 fInt) (aCons (m2 fMul (mB (f1 fInt) (aCons (m2 fAdd (m2 fIx (mV 0) (mC (.int 3))) (m2 fMul (mC (.int 7919)) (m2 fIx (mV 0) (mC (.int 4))))) aNil)) (mC (.int 40692))) aNil)) (mC (.int 2147483647))))
    (sSeq (sSet 2 (m2 fMod (mB (f1 fInt) (aCons (m2 fMul (mV 2) (m2 fAdd (m2 fDiv (mV 2) (mC (.int 1009))) (mC (.int 69621)))) aNil)) (mC (.int 2147483647))))
    (sSeq (sSet 2 (m2 fMod (mB (f1 fInt) (aCons (m2 fMul (mV 2) (m2 fAdd (m2 fDiv (mV 2) (mC (.int 2003))) (mC (.int 40014)))) aNil)) (mC (.int 2147483563))))
    (sRet (m2 fMod (mB (f1 fInt) (aCons (m2 fDiv (mV 2) (mC (.int 16))) aNil)) (mV 1)))))))))
def g__law_draw : List D → FR := runD [.mu, .pl] 3 m__law_draw
def m__law_worlds_1 : M Fl :=
    (sDrop (meExt 3 (mLst (kCons (m2 fAdd (mV 4) (mTup (kCons (mC (.int 0)) kNil))) (kCons (m2 fAdd (mV 4) (mTup (kCons (mC (.int 1)) kNil))) kNil)))))
def m__law_worlds_2 : M Fl :=
    (sSeq (sSet 3 (mLst kNil))
    (sSeq (sFor (iSeqM (mV 1)) (tName 4) m__law_worlds_1)
    (sSet 1 (mV 3))))
def m__law_worlds : M Fl :=
    (sSeq (sSet 1 (mLst (kCons (mTup kNil) kNil)))
    (sSeq (sFor (iFn rng1 (aCons (mV 0) aNil)) (tName 2) m__law_worlds_2)
    (sRet (mV 1))))
def g__law_worlds : List D → FR := runD [.pl] 4 m__law_worlds
def m__law_breaks_1 : M Op :=
    (m2 fEq (m2 fIx (mV 1) (m2 fSub (mB (f1 fAbs) (aCons (mV 2) aNil)) (mC (.int 1)))) (mB (f1 fInt) (aCons (m2 fGt (mV 2) (mC (.int 0))) aNil)))
def m__law_breaks : M Fl :=
    (sRet (mNotV (mT (mB (f1 fAny) (aCons (mLc (iSeqM (mV 0)) (tName 2) tYesM m__law_breaks_1 [2]) aNil)))))
def g__law_breaks : List D → FR := runD [.pl, .pl] 1 m__law_breaks
def m_is_within : M Fl :=
    (sRet (mAndV (mT (mCall g_is_integer [.pl] (aCons (mV 0) aNil))) (mChain fLe fLe (mV 1) (mV 0) (mV 2))))
def g_is_within : List D → FR := runD [.pl, .pl, .pl] 0 m_is_within
def m_first_broken_1 : M Fl :=
    (sIf (mNot (mTr (mCall g_holds_in [.pl, .pl] (aCons (mV 3) (aCons (mV 1) aNil))))) (sRet (mV 2)) sNx)
def m_first_broken : M Fl :=
    (sSeq (sFor (iFnK enm (kiCons (mV 0) kiNil)) (tTup (tsCons (tName 2) (tsCons (tName 3) tsNil))) m_first_broken_1)
    (sRet (mC .none)))
def g_first_broken : List D → FR := runD [.pl, .pl] 2 m_first_broken
def m__law_any : M Fl :=
    (sRet (m2 fIx (mV 1) (mCall g__law_draw [.mu, .pl] (aCons (mV 0) (aCons (mB (f1 fLen) (aCons (mV 1) aNil)) aNil)))))
def g__law_any : List D → FR := runD [.mu, .pl] 0 m__law_any
def m__law_mixed_1 : M Bool :=
    (mT (m2 fGt (mB (f1 fLen) (aCons (mV 2) aNil)) (mC (.int 0))))
def m__law_mixed_2 : M Fl :=
    (sDrop (meApp 3 (mK (mePopAt 2 (mCall g__law_draw [.mu, .pl] (aCons (mV 0) (aCons (mB (f1 fLen) (aCons (mV 2) aNil)) aNil)))))))
def m__law_mixed : M Fl :=
    (sSeq (sPar 2 3 (mB (f1 fList) (aCons (mV 1) aNil)) (mLst kNil))
    (sSeq (sWhile 1000 m__law_mixed_1 m__law_mixed_2)
    (sRet (mV 3))))
def g__law_mixed : List D → FR := runD [.mu, .pl] 2 m__law_mixed
def m__law_same_1 (n : Nat) (g__law_same : Nat → List D → FR) : M Op :=
    (mCall (g__law_same n) [.pl, .pl] (aCons (mV 2) (aCons (mV 3) aNil)))
def m__law_same (n : Nat) (g__law_same : Nat → List D → FR) : M Fl :=
    (sSeq (sIf (mOr (mT (m1 (fIsi ["tuple"]) (mV 1))) (mT (m1 (fIsi ["list"]) (mV 1)))) (sSeq (sIf (mOr (mT (m2 fNe (m1 (fIsi ["tuple"]) (mV 0)) (m1 (fIsi ["tuple"]) (mV 1)))) (mT (m2 fNe (m1 (fIsi ["list"]) (mV 0)) (m1 (fIsi ["list"]) (mV 1))))) (sRet (mC (.bool false))) sNx)
    (sRet (mAndV (mT (m2 fEq (mB (f1 fLen) (aCons (mV 0) aNil)) (mB (f1 fLen) (aCons (mV 1) aNil)))) (mB (f1 fAll) (aCons (mLc (iFnK zp (kiCons (mV 0) (kiCons (mV 1) kiNil))) (tTup (tsCons (tName 2) (tsCons (tName 3) tsNil))) tYesM (m__law_same_1 n g__law_same) [2, 3]) aNil))))) sNx)
    (sSeq (sIf (mOr (mT (m2 fNe (m1 (fIsi ["bool"]) (mV 0)) (m1 (fIsi ["bool"]) (mV 1)))) (mT (m2 fNe (m2 fIs (mV 0) (mC .none)) (m2 fIs (mV 1) (mC .none))))) (sRet (mC (.bool false))) sNx)
    (sRet (mAndV (mT (m2 fEq (m1 (fIsi ["int", "bool"]) (mV 0)) (m1 (fIsi ["int", "bool"]) (mV 1)))) (m2 fEq (mV 0) (mV 1))))))
def g__law_same : Nat → List D → FR
  | 0 => fun _ => .no
  | n + 1 => runD [.pl, .pl] 2 (m__law_same n fun _ => g__law_same n)
theorem is_integer (d : D) (h : okT d = true) : g_is_integer [d] = .ok false (.bool (tyD d == "int")) [] := by
  cases d with
  | dict ks =>
    have h : plainK ks = true := h
    simp [g_is_integer, runD, m_is_integer, h]
  | _ => rfl
theorem is_integer_int (i : Int) : g_is_integer [.int i] = .ok false (.bool true) [] := rfl
theorem is_within (i a b : Int) : g_is_within [.int i, .int a, .int b] = .ok false (.bool (decide (a ≤ i) && decide (i ≤ b))) [] := by
  by_cases h : a ≤ i <;> simp [g_is_within, runD, m_is_within, is_integer_int, h]
theorem is_within_no (d : D) (a b : Int) (h : tyD d ≠ "int") (ok : okT d = true) : g_is_within [d, .int a, .int b] = .ok false (.bool false) [] := by
  have e := is_integer d ok
  rw [show (tyD d == "int") = false from beq_false_of_ne h] at e
  cases d with
  | dict ks =>
    have ok : plainK ks = true := ok
    simp [g_is_within, runD, m_is_within, e, ok]
  | _ => simp [g_is_within, runD, m_is_within, e]
theorem two_to (n : Int) (h : okPow 1 n = true) : g_two_to [.int n] = .ok false (.int (2 ^ n.toNat)) [] := by
  simp [g_two_to, runD, m_two_to, fShl_int h]
/-- a hand: the cells that are left, the great one that is cut up, the running number, the turns -/
structure Hnd where
  cells : List Int
  pos : Nat
  big : Int
  acc : Int
  cnt : Int
def Hnd.d (h : Hnd) : D := .list [.list (h.cells.map .int), .int h.pos, .int h.big, .int h.acc, .int h.cnt]
/-- good for n more draws -/
structure Hnd.Ok (n : Nat) (h : Hnd) : Prop where
  cells : ∀ c ∈ h.cells, 0 ≤ c ∧ c.natAbs < 2 ^ 1048576
  big : 0 ≤ h.big
  acc : 0 ≤ h.acc ∧ h.acc < 4294967296
  cnt : 0 ≤ h.cnt ∧ h.cnt + n ≤ 18446744073709551616
/-- the first part of a draw: a cell is taken -/
def Hnd.take (h : Hnd) : Hnd := if h.big = 0 then (match h.cells[h.pos]? with
  | some c => { h with pos := h.pos + 1, acc := (h.acc * 69621 + c * 48271 + 17) % 2147483629, big := if 10 ^ 18 ≤ c then c else h.big }
  | none => h) else h
def Hnd.num (h : Hnd) : Int :=
  let n1 := ((h.acc + 7919 * (h.cnt + 1)) * 40692) % 2147483647
  let n2 := (n1 * (n1 / 1009 + 69621)) % 2147483647
  (n2 * (n2 / 2003 + 40014)) % 2147483563
def Hnd.draw (h : Hnd) (m : Int) : Int × Hnd := if 0 < h.take.big then (h.take.big % m, { h.take with big := h.take.big / m }) else (h.take.num / 16 % m, { h.take with cnt := h.take.cnt + 1 })
theorem ix50 : ixN 5 0 = some 0 := rfl
theorem ix51 : ixN 5 1 = some 1 := rfl
theorem ix52 : ixN 5 2 = some 2 := rfl
theorem ix53 : ixN 5 3 = some 3 := rfl
theorem ix54 : ixN 5 4 = some 4 := rfl
theorem okM {i j : Int} (h1 : 0 ≤ i) (h2 : i < 1208925819614629174706176) (h3 : 0 ≤ j) (h4 : j < 1208925819614629174706176) : okMul i j = true :=
  okMul_of (a := 80) (b := 80) (by omega) (by omega) (by decide)
theorem okD {m : Int} (hm : 0 < m) (hm2 : m < 1000000) : okDivW m = true := by
  unfold okDivW
  rw [Bool.and_eq_true]
  refine ⟨decide_eq_true hm, decide_eq_true ?_⟩
  have : m.natAbs < 2 ^ 8999 := Nat.lt_of_lt_of_le (show m.natAbs < 2 ^ 20 by omega) (Nat.pow_le_pow_right (by decide) (by decide))
  by_cases z : m.natAbs = 0
  · rw [z]; decide
  · exact Nat.lt_of_lt_of_le ((Nat.log2_lt z).mpr this) (by decide)
section
variable (h : Hnd) {n : Nat} (w : h.Ok (n + 1)) (m : Int) (hm : 0 < m) (hm2 : m < 1000000)
theorem md1 (i : Int) : fMod (.int i) (.int 2147483647) = some (.val (.int (i % 2147483647))) := fMod_int (by decide)
theorem md2 (i : Int) : fMod (.int i) (.int 2147483563) = some (.val (.int (i % 2147483563))) := fMod_int (by decide)
theorem md3 (i : Int) : fMod (.int i) (.int 2147483629) = some (.val (.int (i % 2147483629))) := fMod_int (by decide)
theorem dv1 (i : Int) : fDiv (.int i) (.int 1009) = some (.val (.int (i / 1009))) := fDiv_int (okD (by decide) (by decide))
theorem dv2 (i : Int) : fDiv (.int i) (.int 2003) = some (.val (.int (i / 2003))) := fDiv_int (okD (by decide) (by decide))
theorem dv3 (i : Int) : fDiv (.int i) (.int 16) = some (.val (.int (i / 16))) := fDiv_int (okD (by decide) (by decide))
theorem p18 : fPow (.int 10) (.int 18) = some (.val (.int 1000000000000000000)) := by
  rw [fPow_int (by decide)]; rfl
theorem run_facts {a c : Int} (a1 : 0 ≤ a) (a2 : a < 4294967296) (c1 : 0 ≤ c) (c2 : c < 18446744073709551616) : okMul 7919 (c + 1) = true ∧ okMul (a + 7919 * (c + 1)) 40692 = true ∧ ∃ n1 n2, (a + 7919 * (c + 1)) * 40692 % 2147483647 = n1 ∧ okMul n1 (n1 / 1009 + 69621) = true ∧ n1 * (n1 / 1009 + 69621) % 2147483647 = n2 ∧ okMul n2 (n2 / 2003 + 40014) = true ∧ 0 ≤ n2 := by
  have b1 := Int.emod_nonneg ((a + 7919 * (c + 1)) * 40692) (show (2147483647 : Int) ≠ 0 by decide)
  have b2 := Int.emod_lt_of_pos ((a + 7919 * (c + 1)) * 40692) (show (0 : Int) < 2147483647 by decide)
  refine ⟨okM (by decide) (by decide) (by omega) (by omega), okM (by omega) (by omega) (by decide) (by decide), ?_⟩
  generalize (a + 7919 * (c + 1)) * 40692 % 2147483647 = n1 at b1 b2
  have b3 := Int.emod_nonneg (n1 * (n1 / 1009 + 69621)) (show (2147483647 : Int) ≠ 0 by decide)
  have b4 := Int.emod_lt_of_pos (n1 * (n1 / 1009 + 69621)) (show (0 : Int) < 2147483647 by decide)
  refine ⟨n1, _, rfl, okM b1 (by omega) (by omega) (by omega), rfl, ?_, b3⟩
  generalize n1 * (n1 / 1009 + 69621) % 2147483647 = n2 at b3 b4
  exact okM b3 (by omega) (by omega) (by omega)
theorem num_eq {k : Hnd} {n1 n2 : Int} (e1 : (k.acc + 7919 * (k.cnt + 1)) * 40692 % 2147483647 = n1) (e2 : n1 * (n1 / 1009 + 69621) % 2147483647 = n2) : k.num = n2 * (n2 / 2003 + 40014) % 2147483563 := by
  unfold Hnd.num; simp only [e1, e2]
include w hm hm2
theorem draw_eq : g__law_draw [h.d, .int m] = .ok false (.int (h.draw m).1) [(h.draw m).2.d] := by
  obtain ⟨a1, a2⟩ := w.acc
  obtain ⟨c1, c2⟩ := w.cnt
  have dm := okD hm hm2
  by_cases hb : h.big = 0
  · cases hc : h.cells[h.pos]? with
    | none =>
      have hl : ¬ ((h.pos : Int) < h.cells.length) := by
        have := List.getElem?_eq_none_iff.mp hc
        omega
      have ht : h.take = h := by unfold Hnd.take; rw [if_pos hb, hc]
      obtain ⟨k1, k2, n1, n2, e1, k3, e2, k4, _⟩ := run_facts a1 a2 c1 (by omega)
      have hd : h.draw m = (h.num / 16 % m, { h with cnt := h.cnt + 1 }) := by
        unfold Hnd.draw; rw [ht, if_neg (by rw [hb]; decide)]
      rw [hd, num_eq e1 e2]
      simp -implicitDefEqProofs [g__law_draw, runD, m__law_draw, Hnd.d, hb, hl, ix50, ix51, ix52, ix53, ix54, fMod_int hm, fDiv_int dm, fMul_int k1, fMul_int k2, fMul_int k3, fMul_int k4, md1, md2, md3, dv1, dv2, dv3, e1, e2]
    | some c =>
      have hl : (h.pos : Int) < h.cells.length := by
        have := (List.getElem?_eq_some_iff.mp hc).1
        omega
      obtain ⟨q1, q2⟩ := w.cells c (List.mem_of_getElem? hc)
      have k5 : okMul h.acc 69621 = true := okM a1 (by omega) (by decide) (by decide)
      have k6 : okMul c 48271 = true := okMul_of (a := 1048576) (b := 16) q2 (by decide) (by decide)
      have hcm : (h.cells.map PyData.int)[h.pos]? = some (.int c) := by rw [List.getElem?_map, hc]; rfl
      by_cases hg : 1000000000000000000 ≤ c
      · have ht : h.take = { h with pos := h.pos + 1, acc := (h.acc * 69621 + c * 48271 + 17) % 2147483629, big := c } := by unfold Hnd.take; rw [if_pos hb, hc]; simp [hg]
        have hd : h.draw m = (c % m, { h with pos := h.pos + 1, acc := (h.acc * 69621 + c * 48271 + 17) % 2147483629, big := c / m }) := by
          unfold Hnd.draw; rw [ht, if_pos (by show 0 < c; omega)]
        have hp : 0 < c := by omega
        rw [hd]
        simp -implicitDefEqProofs [g__law_draw, runD, m__law_draw, Hnd.d, hb, hl, ix50, ix51, ix52, ix53, ix54, fMod_int hm, fDiv_int dm, fMul_int k5, fMul_int k6, md3, p18, hg, hp, hc]
      · have ht : h.take = { h with pos := h.pos + 1, acc := (h.acc * 69621 + c * 48271 + 17) % 2147483629, big := 0 } := by unfold Hnd.take; rw [if_pos hb, hc]; simp [hg, hb]
        have b1 := Int.emod_nonneg (h.acc * 69621 + c * 48271 + 17) (show (2147483629 : Int) ≠ 0 by decide)
        have b2 := Int.emod_lt_of_pos (h.acc * 69621 + c * 48271 + 17) (show (0 : Int) < 2147483629 by decide)
        generalize e5 : (h.acc * 69621 + c * 48271 + 17) % 2147483629 = a5 at b1 b2 ht
        obtain ⟨k1, k2, n1, n2, e1, k3, e2, k4, _⟩ := run_facts b1 (by omega) c1 (by omega)
        have hd : h.draw m = (n2 * (n2 / 2003 + 40014) % 2147483563 / 16 % m, { h with pos := h.pos + 1, acc := a5, big := 0, cnt := h.cnt + 1 }) := by
          unfold Hnd.draw; rw [ht, if_neg (show ¬ ((0 : Int) < 0) by decide), num_eq e1 e2]
        rw [hd]
        simp -implicitDefEqProofs [g__law_draw, runD, m__law_draw, Hnd.d, hb, hl, ix50, ix51, ix52, ix53, ix54, fMod_int hm, fDiv_int dm, fMul_int k1, fMul_int k2, fMul_int k3, fMul_int k4, fMul_int k5, fMul_int k6, md1, md2, md3, dv1, dv2, dv3, e1, e2, e5, p18, hg, hc]
  · have hp : 0 < h.big := by have := w.big; omega
    have ht : h.take = h := by unfold Hnd.take; rw [if_neg hb]
    have hd : h.draw m = (h.big % m, { h with big := h.big / m }) := by
      unfold Hnd.draw; rw [ht, if_pos hp]
    rw [hd]
    simp -implicitDefEqProofs [g__law_draw, runD, m__law_draw, Hnd.d, hb, hp, ix50, ix51, ix52, ix53, ix54, fMod_int hm, fDiv_int dm]
theorem draw_ok : 0 ≤ (h.draw m).1 ∧ (h.draw m).1 < m ∧ (h.draw m).2.Ok n := by
  obtain ⟨a1, a2⟩ := w.acc
  obtain ⟨c1, c2⟩ := w.cnt
  have tk : h.take.Ok (n + 1) := by
    unfold Hnd.take
    by_cases hb : h.big = 0
    · rw [if_pos hb]
      cases hc : h.cells[h.pos]? with
      | none => exact w
      | some c =>
        obtain ⟨q1, q2⟩ := w.cells c (List.mem_of_getElem? hc)
        have b1 := Int.emod_nonneg (h.acc * 69621 + c * 48271 + 17) (show (2147483629 : Int) ≠ 0 by decide)
        have b2 := Int.emod_lt_of_pos (h.acc * 69621 + c * 48271 + 17) (show (0 : Int) < 2147483629 by decide)
        refine ⟨w.cells, ?_, ⟨b1, ?_⟩, w.cnt⟩
        · show 0 ≤ (if 10 ^ 18 ≤ c then c else h.big)
          split
          · exact q1
          · exact w.big
        · show (h.acc * 69621 + c * 48271 + 17) % 2147483629 < 4294967296
          omega
    · rw [if_neg hb]; exact w
  unfold Hnd.draw
  generalize h.take = k at tk
  obtain ⟨d1, d2⟩ := tk.cnt
  by_cases hp : 0 < k.big
  · rw [if_pos hp]
    exact ⟨Int.emod_nonneg _ (by omega), Int.emod_lt_of_pos _ hm, tk.cells, Int.ediv_nonneg tk.big (by omega), tk.acc, d1, show k.cnt + (n : Int) ≤ _ by omega⟩
  · rw [if_neg hp]
    exact ⟨Int.emod_nonneg _ (by omega), Int.emod_lt_of_pos _ hm, tk.cells, tk.big, tk.acc, show 0 ≤ k.cnt + 1 by omega, show k.cnt + 1 + (n : Int) ≤ _ by omega⟩
end
/-- a draw -/
theorem draw {h : Hnd} {n : Nat} (w : h.Ok (n + 1)) {m : Int} (hm : 0 < m) (hm2 : m < 1000000) : ∃ r h', g__law_draw [h.d, .int m] = .ok false (.int r) [Hnd.d h'] ∧ 0 ≤ r ∧ r < m ∧ h'.Ok n :=
  ⟨_, _, draw_eq h w m hm hm2, draw_ok h w m hm hm2⟩
theorem Hnd.Ok.mono {h : Hnd} {n m : Nat} (w : h.Ok n) (l : m ≤ n) : h.Ok m := ⟨w.cells, w.big, w.acc, w.cnt.1, by have := w.cnt.2; omega⟩
/-- an item is drawn -/
theorem any {h : Hnd} {n : Nat} (w : h.Ok (n + 1)) {ds : List D} (h0 : ds ≠ []) (hz : ds.length < 1000000) : ∃ d h', g__law_any [h.d, .list ds] = .ok false d [Hnd.d h'] ∧ d ∈ ds ∧ h'.Ok n := by
  have hp : 0 < ds.length := List.length_pos_iff.mpr h0
  obtain ⟨r, h', e, r1, r2, w'⟩ := draw w (m := (ds.length : Int)) (by omega) (by omega)
  have hr : r.toNat < ds.length := by omega
  refine ⟨ds[r.toNat], h', ?_, List.getElem_mem hr, w'⟩
  have ei : atI ds r = some ds[r.toNat] := by rw [atI_pos ds r1, List.getElem?_eq_getElem hr]
  simp -implicitDefEqProofs [g__law_any, runD, m__law_any, e, ei]
theorem fLen_pos (ds : List D) : fGt (.int (ds.length : Int)) (.int 0) = some (.val (.bool (decide (0 < ds.length)))) := by
  rw [fGt_int]
  by_cases h : 0 < ds.length
  · rw [decide_eq_true (show (0 : Int) < ds.length by omega), decide_eq_true h]
  · rw [decide_eq_false (show ¬ (0 : Int) < ds.length by omega), decide_eq_false h]
theorem perm_erase {α : Type} : ∀ {pool : List α} {r : Nat} (h : r < pool.length), (pool[r] :: pool.eraseIdx r).Perm pool
  | x :: pool, 0, _ => List.Perm.refl _
  | x :: pool, r + 1, h => (List.Perm.swap x _ _).trans ((perm_erase (pool := pool) (r := r) (by simpa using h)).cons x)
theorem perm_take {α : Type} (found : List α) : ∀ {pool : List α} {r : Nat} (h : r < pool.length), (found ++ [pool[r]] ++ pool.eraseIdx r).Perm (found ++ pool) := fun {pool r} h => by
  rw [List.append_assoc]
  refine List.Perm.append_left found ?_
  exact perm_erase h
/-- the things in another order -/
theorem mixed {h : Hnd} {n : Nat} {ds : List D} (w : h.Ok (n + ds.length)) (hz : ds.length < 900) : ∃ es h', g__law_mixed [h.d, .list ds] = .ok true (.list es) [Hnd.d h'] ∧ es.Perm ds ∧ h'.Ok n := by
  let P : Nat → Ev → Prop := fun m ρ => ∃ (k : Hnd) (pool found : List D), ρ = [.le k.d, .bo (.list ds), .ow (.list pool), .ow (.list found)] ∧ (found ++ pool).Perm ds ∧ pool.length = m ∧ k.Ok (n + m)
  let Q : Ev → Prop := fun ρ => ∃ (k : Hnd) (pool found : List D), ρ = [.le k.d, .bo (.list ds), .ow (.list pool), .ow (.list found)] ∧ found.Perm ds ∧ k.Ok n
  have hP : P ds.length [.le h.d, .bo (.list ds), .ow (.list ds), .ow (.list [])] := ⟨h, ds, [], rfl, List.Perm.refl _, rfl, w⟩
  obtain ⟨ρ', e, k, pool, found, eρ, pf, wk⟩ := whI_inv (c := m__law_mixed_1) (b := m__law_mixed_2) (P := P) (Q := Q) (fun m ρ hp => by
    obtain ⟨k, pool, found, eρ, pf, pl, wk⟩ := hp
    subst eρ
    have hpl : found.length + pool.length = ds.length := by
      have := pf.length_eq
      rwa [List.length_append] at this
    cases m with
    | zero =>
      refine .inl ⟨_, ?_, k, pool, found, rfl, ?_, wk⟩
      · simp -implicitDefEqProofs [m__law_mixed_1, pl]
      · have : pool = [] := List.length_eq_zero_iff.mp pl
        rw [this, List.append_nil] at pf; exact pf
    | succ m =>
      obtain ⟨r, k', e, r1, r2, wk'⟩ := draw (h := k) (n := n + m) wk (m := (pool.length : Int)) (by omega) (by omega)
      have hr : r.toNat < pool.length := by omega
      have ok : okIx r = true := okIx_of r1 (by omega)
      have hlt : found.length < sizeLine := Nat.lt_of_lt_of_le (show found.length < 900 by omega) (by decide)
      refine .inr ⟨m, rfl, [.le k.d, .bo (.list ds), .ow (.list pool), .ow (.list found)], [.le k'.d, .bo (.list ds), .ow (.list (pool.eraseIdx r.toNat)), .ow (.list (found ++ [pool[r.toNat]]))], ?_, .inl ?_, k', _, _, rfl, (perm_take found hr).trans pf, ?_, wk'⟩
      · simp -implicitDefEqProofs [m__law_mixed_1, pl]
      · simp -implicitDefEqProofs [m__law_mixed_2, e, ok, seqIx r1 r2, List.getElem?_eq_getElem hr, hlt]
      · rw [List.length_eraseIdx, if_pos hr]; omega) ds.length 1000 _ (by omega) hP
  subst eρ
  refine ⟨found, k, ?_, pf, wk⟩
  simp -implicitDefEqProofs [g__law_mixed, runD, m__law_mixed, e]
/-- data of ints, flags, None, lists, tuples, of depth n at most -/
inductive Tr : Nat → D → Prop
  | int (n : Nat) (i : Int) : Tr n (.int i)
  | bool (n : Nat) (i : Bool) : Tr n (.bool i)
  | none (n : Nat) : Tr n .none
  | tup {n : Nat} {ds : List D} : (∀ d ∈ ds, Tr n d) → ds.length ≤ sizeLine → Tr (n + 1) (.tuple ds)
  | lst {n : Nat} {ds : List D} : (∀ d ∈ ds, Tr n d) → ds.length ≤ sizeLine → Tr (n + 1) (.list ds)
theorem Tr.shp {n : Nat} {d : D} (h : Tr n d) : Shp n d := by
  induction h with
  | int n i => exact Shp.int n i
  | bool n i => exact Shp.bool n i
  | none n => exact Shp.none n
  | tup _ _ ih => exact Shp.tup ih
  | lst _ _ ih => exact Shp.lst ih
theorem Tr.mono {n : Nat} {d : D} (h : Tr n d) : ∀ {m : Nat}, n ≤ m → Tr m d := by
  induction h with
  | int n i => exact fun _ => .int _ i
  | bool n i => exact fun _ => .bool _ i
  | none n => exact fun _ => .none _
  | tup _ hz ih =>
    intro m l
    match m, l with
    | m + 1, l => exact .tup (fun d hd => ih d hd (by omega)) hz
  | lst _ hz ih =>
    intro m l
    match m, l with
    | m + 1, l => exact .lst (fun d hd => ih d hd (by omega)) hz
theorem zip_self (ds : List D) : zipD ds ds = ds.map fun d => .tuple [d, d] := by
  unfold zipD
  induction ds with
  | nil => rfl
  | cons d ds ih => simp [ih]
/-- the same thing twice -/
theorem same : ∀ (n : Nat) (d : D), Tr n d → n ≤ 60 → g__law_same (n + 1) [d, d] = .ok false (.bool true) [] := by
  intro n d h hn
  have comp : ∀ (n : Nat) (ds : List D) (s : Sl), (s = .bo (.list ds) ∨ s = .cl (.tuple ds)) → (∀ d ∈ ds, g__law_same (n + 1) [d, d] = .ok false (.bool true) []) → ds.length ≤ sizeLine →
      mLc (iFnK zp (kiCons (mV 0) (kiCons (mV 1) kiNil))) (tTup (tsCons (tName 2) (tsCons (tName 3) tsNil))) tYesM (m__law_same_1 (n + 1) fun _ => g__law_same (n + 1)) [2, 3] [s, s, .un, .un] = .ok (.fr (.list (ds.map fun _ => .bool true))) [s, s, .un, .un] := by
    intro n ds s hs ih hz
    have := mLc_pair (it := iFnK zp (kiCons (mV 0) (kiCons (mV 1) kiNil))) (v := 2) (u := 3) (tt := tYesM) (e := m__law_same_1 (n + 1) fun _ => g__law_same (n + 1)) (ρ := [s, s, .un, .un]) (ρ1 := [s, s, .un, .un]) (ds := zipD ds ds) (fun _ => true) (fun _ => .bool true)
      (by rcases hs with e | e <;> (subst e; simp -implicitDefEqProofs)) (by decide) rfl rfl (by rw [zip_self, List.length_map]; exact hz) (fun d hd => by
        rw [zip_self] at hd
        obtain ⟨x, hx, e⟩ := List.mem_map.mp hd
        refine ⟨x, x, e.symm, rfl, fun _ => ?_⟩
        simp -implicitDefEqProofs [m__law_same_1, ih x hx])
    rw [this, zip_self, List.filter_eq_self.mpr fun _ _ => rfl, List.map_map]
    rfl
  have eq : ∀ (n : Nat) (ds : List D), g__law_same (n + 1) ds = runD [.pl, .pl] 2 (m__law_same n fun _ => g__law_same n) ds := fun _ _ => rfl
  have en : fEq .none .none = some (.val (.bool true)) := by rw [fEq_of okS_none okS_none]; simp [PyData.eqv]
  induction h with
  | int n i =>
    rw [eq]; unfold m__law_same
    simp -implicitDefEqProofs [runD]
  | bool n i =>
    rw [eq]; unfold m__law_same
    simp -implicitDefEqProofs [runD]
  | none n =>
    rw [eq]; unfold m__law_same
    simp -implicitDefEqProofs [runD, en]
  | @tup n ds ht hz ih =>
    have ih' := fun d hd => ih d hd (by omega)
    have c := comp n ds (.cl (.tuple ds)) (.inr rfl) ih' hz
    have al := fAll_map (fun _ : D => true) ds
    rw [eq]; unfold m__law_same
    simp -implicitDefEqProofs [runD, c, al]
  | @lst n ds ht hz ih =>
    have ih' := fun d hd => ih d hd (by omega)
    have c := comp n ds (.bo (.list ds)) (.inl rfl) ih' hz
    have al := fAll_map (fun _ : D => true) ds
    rw [eq]; unfold m__law_same
    simp -implicitDefEqProofs [runD, c, al]
end Lb
set_option maxHeartbeats 2000000
namespace Lb
open PySem PySem.Spec L2 Vx
def m_many_in_1 : M Bool :=
    (mT (m2 fGt (mB (f1 fLen) (aCons (mV 1) aNil)) (mC (.int 0))))
def m_many_in_2 : M Op :=
    (mB (f1 fAbs) (aCons (m2 fIx (mV 1) (m1 fNeg (mC (.int 1)))) aNil))
def m_many_in : M Fl :=
    (sRet (mB fMax (aCons (m2 fAdd (mLst (kCons (mC (.int 0)) kNil)) (mLc (iSeqM (mV 0)) (tName 1) m_many_in_1 m_many_in_2 [1])) aNil)))
def g_many_in : List D → FR := runD [.pl] 1 m_many_in
def m_is_part_1 : M Op :=
    (m2 fIn (mV 2) (mV 1))
def m_is_part : M Fl :=
    (sRet (mB (f1 fAll) (aCons (mLc (iSeqM (mV 0)) (tName 2) tYesM m_is_part_1 [2]) aNil)))
def g_is_part : List D → FR := runD [.pl, .pl] 1 m_is_part
def m_left_by_1 : M Op :=
    (m2 fIn (mV 4) (mV 3))
def m_left_by_2 : M Bool :=
    (mT (m2 fNotIn (m1 fNeg (mV 4)) (mV 1)))
def m_left_by_3 : M Op :=
    (mV 4)
def m_left_by_4 : M Fl :=
    (sIf (mNot (mT (mB (f1 fAny) (aCons (mLc (iSeqM (mV 1)) (tName 4) tYesM m_left_by_1 [4]) aNil)))) (sDrop (meApp 2 (mK (mB (f1 fTuple) (aCons (mLc (iSeqM (mV 3)) (tName 4) m_left_by_2 m_left_by_3 [4]) aNil))))) sNx)
def m_left_by : M Fl :=
    (sSeq (sSet 2 (mLst kNil))
    (sSeq (sFor (iSeqM (mV 0)) (tName 3) m_left_by_4)
    (sRet (mB (f1 fTuple) (aCons (mV 2) aNil)))))
def g_left_by : List D → FR := runD [.pl, .pl] 3 m_left_by
def m__law_atoms_of_1 : M Op :=
    (mB (f1 fAbs) (aCons (mV 3) aNil))
def m__law_atoms_of_2 : M Fl :=
    (sDrop (meExt 1 (mLc (iSeqM (mV 2)) (tName 3) tYesM m__law_atoms_of_1 [3])))
def m__law_atoms_of : M Fl :=
    (sSeq (sSet 1 (mLst kNil))
    (sSeq (sFor (iSeqM (mV 0)) (tName 2) m__law_atoms_of_2)
    (sRet (mV 1))))
def g__law_atoms_of : List D → FR := runD [.pl] 3 m__law_atoms_of
def m__law_joined_1 : M Fl :=
    (sSeq (sIf (mT (m2 fIn (m2 fSub (mC (.int 0)) (mV 2)) (mV 1))) (sRet (mC .none)) sNx)
    (sSet 1 (m2 fAdd (mV 1) (m2F fRep (mLst (kCons (mV 2) kNil)) (mB (f1 fInt) (aCons (m2 fNotIn (mV 2) (mV 1)) aNil))))))
def m__law_joined : M Fl :=
    (sSeq (sSet 1 (mLst kNil))
    (sSeq (sFor (iSeqM (m1 (fSrtK kAbs) (mV 0))) (tName 2) m__law_joined_1)
    (sRet (mB (f1 fTuple) (aCons (mV 1) aNil)))))
def g__law_joined : List D → FR := runD [.pl] 2 m__law_joined
def m__law_has_all_1 : M Op :=
    (m2 fIn (mV 2) (mV 0))
def m__law_has_all : M Fl :=
    (sRet (mB (f1 fAll) (aCons (mLc (iSeqM (mV 1)) (tName 2) tYesM m__law_has_all_1 [2]) aNil)))
def g__law_has_all : List D → FR := runD [.pl, .pl] 1 m__law_has_all
def m__law_left_1 : M Bool :=
    (mT (m2 fNotIn (m2 fSub (mC (.int 0)) (mV 4)) (mV 1)))
def m__law_left_2 : M Op :=
    (mV 4)
def m__law_left_3 : M Op :=
    (mB (f1 fTuple) (aCons (mLc (iSeqM (mV 3)) (tName 4) m__law_left_1 m__law_left_2 [4]) aNil))
def m__law_left_4 : M Op :=
    (m2 fIn (mV 4) (mV 1))
def m__law_left_5 : M Bool :=
    (mNot (mT (mB (f1 fAny) (aCons (mLc (iSeqM (mV 3)) (tName 4) tYesM m__law_left_4 [4]) aNil))))
def m__law_left_6 : M Op :=
    (mV 3)
def m__law_left : M Fl :=
    (sSeq (sSet 2 (mLc (iSeqM (mV 0)) (tName 3) m__law_left_5 m__law_left_6 [3]))
    (sRet (mB (f1 fTuple) (aCons (mLc (iSeqM (mV 2)) (tName 3) tYesM m__law_left_3 [3]) aNil))))
def g__law_left : List D → FR := runD [.pl, .pl] 3 m__law_left
def m_joined_1 : M Op :=
    (m2 fEq (mB (f1 fAbs) (aCons (mV 2) aNil)) (mB (f1 fAbs) (aCons (mV 3) aNil)))
def m_joined_2 : M Op :=
    (mV 2)
def m_joined_3 : M Op :=
    (mC (.bool true))
def m_joined : M Fl :=
    (sSeq (sSet 1 (m1 (fSrtK kAbsP) (mDc (iSeqM (mV 0)) (tName 2) tYesM m_joined_2 m_joined_3 [2])))
    (sSeq (sIf (mT (mB (f1 fAny) (aCons (mLc (iFnK zp (kiCons (mV 1) (kiCons (mSl fSl (mV 1) (bAt (mC (.int 1))) bNo) kiNil))) (tTup (tsCons (tName 2) (tsCons (tName 3) tsNil))) tYesM m_joined_1 [2, 3]) aNil))) (sRet (mC .none)) sNx)
    (sRet (mB (f1 fTuple) (aCons (mV 1) aNil)))))
def g_joined : List D → FR := runD [.pl] 3 m_joined
def m__law_many : M Fl :=
    (sRet (mB fMax (aCons (m2 fAdd (mLst (kCons (mC (.int 0)) kNil)) (mCall g__law_atoms_of [.pl] (aCons (mV 0) aNil))) aNil)))
def g__law_many : List D → FR := runD [.pl] 0 m__law_many
def m__law_thin_1 : M Bool :=
    (mAnd (mTr (mCall g__law_has_all [.pl, .pl] (aCons (mV 3) (aCons (mV 6) aNil)))) (mT (m2 fNe (mV 6) (mV 3))))
def m__law_thin_2 : M Op :=
    (mV 6)
def m__law_thin_3 : M Bool :=
    (mTr (mCall g__law_has_all [.pl, .pl] (aCons (mV 3) (aCons (mV 6) aNil))))
def m__law_thin_4 : M Op :=
    (mV 6)
def m__law_thin_5 : M Fl :=
    (sSeq (sSet 4 (mLc (iSeqM (mSl fSl (mV 0) bNo (bAt (mV 2)))) (tName 6) m__law_thin_3 m__law_thin_4 [6]))
    (sSeq (sSet 5 (mLc (iSeqM (mSl fSl (mV 0) (bAt (m2 fAdd (mV 2) (mC (.int 1)))) bNo)) (tName 6) m__law_thin_1 m__law_thin_2 [6]))
    (sSet 1 (m2 fAdd (mV 1) (m2F fRep (mLst (kCons (mV 3) kNil)) (mB (f1 fInt) (aCons (m2 fEq (m2 fAdd (mB (f1 fLen) (aCons (mV 4) aNil)) (mB (f1 fLen) (aCons (mV 5) aNil))) (mC (.int 0))) aNil)))))))
def m__law_thin : M Fl :=
    (sSeq (sSet 1 (mLst kNil))
    (sSeq (sFor (iFnK enm (kiCons (mV 0) kiNil)) (tTup (tsCons (tName 2) (tsCons (tName 3) tsNil))) m__law_thin_5)
    (sRet (mB (f1 fTuple) (aCons (mV 1) aNil)))))
def g__law_thin : List D → FR := runD [.pl] 6 m__law_thin
def m_is_clause_1 : M Op :=
    (m2 fLt (mB (f1 fAbs) (aCons (mV 1) aNil)) (mB (f1 fAbs) (aCons (mV 2) aNil)))
def m_is_clause_2 : M Op :=
    (mCall g_is_within [.pl, .pl, .pl] (aCons (mV 1) (aCons (m1 fNeg (mC (.int 12))) (aCons (mC (.int 12)) aNil))))
def m_is_clause : M Fl :=
    (sSeq (sIf (mOr (mNot (mT (m1 (fIsi ["tuple"]) (mV 0)))) (mNot (mT (mB (f1 fAll) (aCons (mLc (iSeqM (mV 0)) (tName 1) tYesM m_is_clause_2 [1]) aNil))))) (sRet (mC (.bool false))) sNx)
    (sSeq (sIf (mT (m2 fIn (mC (.int 0)) (mV 0))) (sRet (mC (.bool false))) sNx)
    (sRet (mB (f1 fAll) (aCons (mLc (iFnK zp (kiCons (mV 0) (kiCons (mSl fSl (mV 0) (bAt (mC (.int 1))) bNo) kiNil))) (tTup (tsCons (tName 1) (tsCons (tName 2) tsNil))) tYesM m_is_clause_1 [1, 2]) aNil)))))
def g_is_clause : List D → FR := runD [.pl] 2 m_is_clause
def m_is_names_1 : M Op :=
    (mB (f1 fAbs) (aCons (mV 2) aNil))
def m_is_names_2 : M Op :=
    (mC (.bool true))
def m_is_names_3 : M Op :=
    (mAndV (mT (mCall g_is_within [.pl, .pl, .pl] (aCons (mV 2) (aCons (m1 fNeg (mC (.int 12))) (aCons (mC (.int 12)) aNil))))) (m2 fNe (mV 2) (mC (.int 0))))
def m_is_names : M Fl :=
    (sSeq (sIf (mOr (mNot (mT (m1 (fIsi ["tuple"]) (mV 0)))) (mT (m2 fNe (mB (f1 fLen) (aCons (mV 0) aNil)) (mV 1)))) (sRet (mC (.bool false))) sNx)
    (sSeq (sIf (mNot (mT (mB (f1 fAll) (aCons (mLc (iSeqM (mV 0)) (tName 2) tYesM m_is_names_3 [2]) aNil)))) (sRet (mC (.bool false))) sNx)
    (sRet (m2 fEq (mB (f1 fLen) (aCons (mDc (iSeqM (mV 0)) (tName 2) tYesM m_is_names_1 m_is_names_2 [2]) aNil)) (mV 1)))))
def g_is_names : List D → FR := runD [.pl, .pl] 1 m_is_names
def m__law_models_1 : M Op :=
    (mCall g__law_breaks [.pl, .pl] (aCons (mV 2) (aCons (mV 1) aNil)))
def m__law_models_2 : M Bool :=
    (mNot (mT (mB (f1 fAny) (aCons (mLc (iSeqM (mV 0)) (tName 2) tYesM m__law_models_1 [2]) aNil))))
def m__law_models_3 : M Op :=
    (mV 1)
def m__law_models : M Fl :=
    (sRet (mLc (iSeqM (mCall g__law_worlds [.pl] (aCons (mCall g__law_many [.pl] (aCons (mV 0) aNil)) aNil))) (tName 1) m__law_models_2 m__law_models_3 [1]))
def g__law_models : List D → FR := runD [.pl] 2 m__law_models
def m_is_clauses_1 : M Op :=
    (mCall g_is_clause [.pl] (aCons (mV 1) aNil))
def m_is_clauses : M Fl :=
    (sSeq (sIf (mOr (mNot (mT (m1 (fIsi ["tuple"]) (mV 0)))) (mT (m2 fGt (mB (f1 fLen) (aCons (mV 0) aNil)) (mC (.int 80))))) (sRet (mC (.bool false))) sNx)
    (sRet (mB (f1 fAll) (aCons (mLc (iSeqM (mV 0)) (tName 1) tYesM m_is_clauses_1 [1]) aNil))))
def g_is_clauses : List D → FR := runD [.pl] 1 m_is_clauses
def m_is_lot : M Fl :=
    (sRet (mCall g_is_clause [.pl] (aCons (mV 0) aNil)))
def g_is_lot : List D → FR := runD [.pl] 0 m_is_lot
def m_check_clauses : M Fl :=
    (sIf (mNot (mTr (mCall g_is_clauses [.pl] (aCons (mV 0) aNil)))) sNo sNx)
def g_check_clauses : List D → FR := runD [.pl] 0 m_check_clauses
def m_check_lot : M Fl :=
    (sIf (mNot (mTr (mCall g_is_lot [.pl] (aCons (mV 0) aNil)))) sNo sNx)
def g_check_lot : List D → FR := runD [.pl] 0 m_check_lot
def m_models_of_1 : M Bool :=
    (mT (m2 fIs (mCall g_first_broken [.pl, .pl] (aCons (mV 0) (aCons (mV 4) aNil))) (mC .none)))
def m_models_of_2 : M Op :=
    (mV 4)
def m_models_of_3 : M Op :=
    (mCall g_bits_of [.pl, .pl] (aCons (mV 3) (aCons (mV 1) aNil)))
def m_models_of : M Fl :=
    (sSeq (sDrop (mCall g_check_clauses [.pl] (aCons (mV 0) aNil)))
    (sSeq (sSet 1 (mCall g_many_in [.pl] (aCons (mV 0) aNil)))
    (sSeq (sIf (mT (m2 fGt (mV 1) (mC (.int 10)))) sNo sNx)
    (sSeq (sSet 2 (mLc (iFn rng1 (aCons (mCall g_two_to [.pl] (aCons (mV 1) aNil)) aNil)) (tName 3) tYesM m_models_of_3 [3]))
    (sRet (mLc (iSeqM (mV 2)) (tName 4) m_models_of_1 m_models_of_2 [4]))))))
def g_models_of : List D → FR := runD [.pl] 4 m_models_of
def m_thinned_1 : M Op :=
    (mAndV (mT (mCall g_is_part [.pl, .pl] (aCons (mV 5) (aCons (mV 3) aNil)))) (mOrV (mT (m2 fNe (mV 5) (mV 3))) (m2 fLt (mV 4) (mV 2))))
def m_thinned_2 : M Fl :=
    (sIf (mNot (mT (mB (f1 fAny) (aCons (mLc (iFnK enm (kiCons (mV 0) kiNil)) (tTup (tsCons (tName 4) (tsCons (tName 5) tsNil))) tYesM m_thinned_1 [4, 5]) aNil)))) (sDrop (meApp 1 (mK (mV 3)))) sNx)
def m_thinned : M Fl :=
    (sSeq (sDrop (mCall g_check_clauses [.pl] (aCons (mV 0) aNil)))
    (sSeq (sSet 1 (mLst kNil))
    (sSeq (sFor (iFnK enm (kiCons (mV 0) kiNil)) (tTup (tsCons (tName 2) (tsCons (tName 3) tsNil))) m_thinned_2)
    (sRet (mB (f1 fTuple) (aCons (mV 1) aNil))))))
def g_thinned : List D → FR := runD [.pl] 5 m_thinned
def m_given_lot : M Fl :=
    (sSeq (sDrop (mCall g_check_clauses [.pl] (aCons (mV 0) aNil)))
    (sSeq (sDrop (mCall g_check_lot [.pl] (aCons (mV 1) aNil)))
    (sRet (mCall g_left_by [.pl, .pl] (aCons (mV 0) (aCons (mV 1) aNil))))))
def g_given_lot : List D → FR := runD [.pl, .pl] 0 m_given_lot
def m_turned_atoms_1 : M Op :=
    (mIf (mT (m2 fGt (mV 4) (mC (.int 0)))) (m2 fIx (mV 1) (m2 fSub (mV 4) (mC (.int 1)))) (m1 fNeg (m2 fIx (mV 1) (m2 fSub (m1 fNeg (mV 4)) (mC (.int 1))))))
def m_turned_atoms_2 : M Fl :=
    (sDrop (meApp 2 (mK (mCall g_joined [.pl] (aCons (mLc (iSeqM (mV 3)) (tName 4) tYesM m_turned_atoms_1 [4]) aNil)))))
def m_turned_atoms : M Fl :=
    (sSeq (sDrop (mCall g_check_clauses [.pl] (aCons (mV 0) aNil)))
    (sSeq (sIf (mNot (mTr (mCall g_is_names [.pl, .pl] (aCons (mV 1) (aCons (mCall g_many_in [.pl] (aCons (mV 0) aNil)) aNil))))) sNo sNx)
    (sSeq (sSet 2 (mLst kNil))
    (sSeq (sFor (iSeqM (mV 0)) (tName 3) m_turned_atoms_2)
    (sRet (mB (f1 fTuple) (aCons (mV 2) aNil)))))))
def g_turned_atoms : List D → FR := runD [.pl, .pl] 3 m_turned_atoms
def clB (c : List Int) : Bool := c.all (fun x => decide (-12 ≤ x) && decide (x ≤ 12)) && !decide (0 ∈ c) && (c.zip c.tail).all fun q => decide (absI q.1 < absI q.2)
theorem neg12 : fNeg (.int 12) = some (.val (.int (-12))) := rfl
theorem is_clause_eq {c : List Int} (hz : c.length ≤ sizeLine) : g_is_clause [encI c] = .ok false (.bool (clB c)) [] := by
  have h1 : mLc (iSeqM (mV 0)) (tName 1) tYesM m_is_clause_2 [1] [.cl (encI c), .un, .un] = .ok (.fr (.list (c.map fun x => .bool (decide (-12 ≤ x) && decide (x ≤ 12))))) [.cl (encI c), .un, .un] :=
    mLc_encM .int _ (by simp -implicitDefEqProofs) rfl hz fun x _ => by simp -implicitDefEqProofs [m_is_clause_2, is_within]
  have e2 : zipD (c.map .int) (cutD (c.map .int) (some 1) none) = (c.zip c.tail).map fun q => .tuple [.int q.1, .int q.2] := by
    rw [cut_1, ← List.map_drop, zip_enc, List.drop_one]
  have h2 : mLc (iFnK zp (kiCons (mV 0) (kiCons (mSl fSl (mV 0) (bAt (mC (.int 1))) bNo) kiNil))) (Vx.tTup (tsCons (tName 1) (tsCons (tName 2) tsNil))) tYesM m_is_clause_1 [1, 2] [.cl (encI c), .un, .un] = .ok (.fr (.list ((c.zip c.tail).map fun q => .bool (decide (absI q.1 < absI q.2))))) [.cl (encI c), .un, .un] :=
    mLc_enc2M .int .int _ (by simp -implicitDefEqProofs [e2]) (by decide) rfl rfl (by rw [List.length_zip]; omega) fun q _ => by
      simp -implicitDefEqProofs [m_is_clause_1]
  have a1 := fAll_map (fun x : Int => decide (-12 ≤ x) && decide (x ≤ 12)) c
  have a2 := fAll_map (fun q : Int × Int => decide (absI q.1 < absI q.2)) (c.zip c.tail)
  have i1 := fIn_I 0 c
  unfold clB
  generalize (c.all fun x => decide (-12 ≤ x) && decide (x ≤ 12)) = b1 at a1
  generalize ((c.zip c.tail).all fun q => decide (absI q.1 < absI q.2)) = b3 at a2
  cases b1
  · simp -implicitDefEqProofs [g_is_clause, runD, m_is_clause, h1, a1]
  · by_cases h0 : 0 ∈ c
    · simp -implicitDefEqProofs [g_is_clause, runD, m_is_clause, h1, a1, i1, h0]
    · simp -implicitDefEqProofs [g_is_clause, runD, m_is_clause, h1, h2, a1, a2, i1, h0]
/-- clauses -/
abbrev encC (cs : List (List Int)) : D := .tuple (cs.map encI)
theorem is_clauses_eq {cs : List (List Int)} (hz : cs.length ≤ 80) (hc : ∀ c ∈ cs, c.length ≤ sizeLine) : g_is_clauses [encC cs] = .ok false (.bool (cs.all clB)) [] := by
  have hz2 : cs.length ≤ sizeLine := Nat.le_trans hz (by decide)
  have h1 : mLc (iSeqM (mV 0)) (tName 1) tYesM m_is_clauses_1 [1] [.cl (encC cs), .un] = .ok (.fr (.list (cs.map fun c => .bool (clB c)))) [.cl (encC cs), .un] :=
    mLc_encM encI _ (by simp -implicitDefEqProofs) rfl hz2 fun c hcm => by simp -implicitDefEqProofs [m_is_clauses_1, is_clause_eq (hc c hcm)]
  have a1 := fAll_map clB cs
  have hn : ¬ (80 : Int) < cs.length := by omega
  simp -implicitDefEqProofs [g_is_clauses, runD, m_is_clauses, h1, a1, hn]
theorem check_clauses_ok {cs : List (List Int)} (hz : cs.length ≤ 80) (hc : ∀ c ∈ cs, c.length ≤ sizeLine) (h : cs.all clB = true) : g_check_clauses [encC cs] = .ok false .none [] := by
  simp -implicitDefEqProofs [g_check_clauses, runD, m_check_clauses, is_clauses_eq hz hc, h, truD]
/-- a good clause -/
structure ClOk (c : List Int) : Prop where
  atoms : ∀ x ∈ c, -12 ≤ x ∧ x ≤ 12 ∧ x ≠ 0
  up : c.Pairwise fun a b => absI a < absI b
theorem zip_tail_up : ∀ {c : List Int}, c.Pairwise (fun a b => absI a < absI b) → (c.zip c.tail).all (fun q => decide (absI q.1 < absI q.2)) = true
  | [], _ => rfl
  | [_], _ => rfl
  | a :: b :: c, h => by
    obtain ⟨h1, h2⟩ := List.pairwise_cons.mp h
    have ih := zip_tail_up h2
    show (decide (absI a < absI b) && ((b :: c).zip c).all _) = true
    rw [decide_eq_true (h1 b List.mem_cons_self)]
    exact ih
theorem ClOk.clB {c : List Int} (h : ClOk c) : Lb.clB c = true := by
  unfold Lb.clB
  rw [zip_tail_up h.up, Bool.and_true, Bool.and_eq_true]
  refine ⟨List.all_eq_true.mpr fun x hx => ?_, ?_⟩
  · obtain ⟨h1, h2, _⟩ := h.atoms x hx
    simp [h1, h2]
  · have : 0 ∉ c := fun z => (h.atoms 0 z).2.2 rfl
    simp [this]
theorem up_len : ∀ {c : List Int} (k : Int), (∀ x ∈ c, k < absI x ∧ absI x ≤ 12) → c.Pairwise (fun a b => absI a < absI b) → k ≤ 12 → (c.length : Int) ≤ 12 - k
  | [], k, _, _, hk => by simp; omega
  | a :: c, k, h, p, hk => by
    obtain ⟨h1, h2⟩ := List.pairwise_cons.mp p
    obtain ⟨h3, h4⟩ := h a List.mem_cons_self
    have := up_len (c := c) (absI a) (fun x hx => ⟨h1 x hx, (h x (List.mem_cons_of_mem _ hx)).2⟩) h2 h4
    rw [List.length_cons]
    omega
theorem ClOk.len {c : List Int} (h : ClOk c) : c.length ≤ 12 := by
  have := up_len (c := c) 0 (fun x hx => by
    obtain ⟨h1, h2, h3⟩ := h.atoms x hx
    exact ⟨absI_pos h3, by unfold absI; split <;> omega⟩) h.up (by decide)
  omega
theorem ClOk.size {c : List Int} (h : ClOk c) : c.length ≤ sizeLine := Nat.le_trans h.len (by decide)
theorem check_ok {cs : List (List Int)} (hz : cs.length ≤ 80) (h : ∀ c ∈ cs, ClOk c) : g_check_clauses [encC cs] = .ok false .none [] :=
  check_clauses_ok hz (fun c hc => (h c hc).size) (List.all_eq_true.mpr fun c hc => (h c hc).clB)
theorem check_lot_ok {c : List Int} (h : ClOk c) : g_check_lot [encI c] = .ok false .none [] := by
  simp -implicitDefEqProofs [g_check_lot, runD, m_check_lot, g_is_lot, m_is_lot, is_clause_eq h.size, h.clB, truD]
end Lb
set_option maxHeartbeats 2000000
namespace Lb
open PySem PySem.Spec L2 Vx
def litB (w : List Int) (x : Int) : Bool := decide (w.getD (absI x - 1).toNat 0 = if 0 < x then 1 else 0)
def holdsB (c w : List Int) : Bool := c.any (litB w)
/-- the clause's atoms are in the world -/
def Fits (c w : List Int) : Prop := ∀ x ∈ c, x ≠ 0 ∧ absI x ≤ w.length
theorem ix_lit {w : List Int} {x : Int} (h : x ≠ 0) (h2 : absI x ≤ w.length) : fIx (encI w) (.int (absI x - 1)) = some (.val (.int (w.getD (absI x - 1).toNat 0))) := by
  have hp := absI_pos h
  rw [fIx_tup, atI_pos _ (by omega), List.getElem?_map, List.getD_eq_getElem?_getD, List.getElem?_eq_getElem (by omega)]
  rfl
theorem holds_in {c w : List Int} (hf : Fits c w) (hz : c.length ≤ sizeLine) : g_holds_in [encI c, encI w] = .ok false (.bool (holdsB c w)) [] := by
  have h1 : mLc (iSeqM (mV 0)) (tName 2) tYesM m_holds_in_1 [2] [.cl (encI c), .cl (encI w), .un] = .ok (.fr (.list (c.map fun x => .bool (litB w x)))) [.cl (encI c), .cl (encI w), .un] :=
    mLc_encM .int _ (by simp -implicitDefEqProofs) rfl hz fun x hx => by
      have e := ix_lit (hf x hx).1 (hf x hx).2
      simp -implicitDefEqProofs [m_holds_in_1, e, litB]
  have a1 := fAny_map (litB w) c
  simp -implicitDefEqProofs [g_holds_in, runD, m_holds_in, h1, a1, holdsB]
theorem breaks {c w : List Int} (hf : Fits c w) (hz : c.length ≤ sizeLine) : g__law_breaks [encI c, encI w] = .ok false (.bool (!holdsB c w)) [] := by
  have h1 : mLc (iSeqM (mV 0)) (tName 2) tYesM m__law_breaks_1 [2] [.cl (encI c), .cl (encI w), .un] = .ok (.fr (.list (c.map fun x => .bool (litB w x)))) [.cl (encI c), .cl (encI w), .un] :=
    mLc_encM .int _ (by simp -implicitDefEqProofs) rfl hz fun x hx => by
      have e := ix_lit (hf x hx).1 (hf x hx).2
      simp -implicitDefEqProofs [m__law_breaks_1, e, litB]
  have a1 := fAny_map (litB w) c
  simp -implicitDefEqProofs [g__law_breaks, runD, m__law_breaks, h1, a1, holdsB]
/-- the first clause that is broken -/
theorem first_broken {cs : List (List Int)} {w : List Int} (hf : ∀ c ∈ cs, Fits c w) (hz : ∀ c ∈ cs, c.length ≤ sizeLine) :
    ∃ d, g_first_broken [encC cs, encI w] = .ok false d [] ∧ isNo d = cs.all fun c => holdsB c w := by
  have key : ∀ (l : List (List Int)) (k : Nat) (s1 s2 : Sl), (∀ c ∈ l, Fits c w) → (∀ c ∈ l, c.length ≤ sizeLine) → free (some s1) = true → free (some s2) = true →
      (l.all (fun c => holdsB c w) = true ∧ ∃ s1' s2', forI (Vx.tTup (tsCons (tName 2) (tsCons (tName 3) tsNil))) m_first_broken_1 (enumD k (l.map encI)) [.cl (encC cs), .cl (encI w), s1, s2] = .ok .nx [.cl (encC cs), .cl (encI w), s1', s2']) ∨
      (l.all (fun c => holdsB c w) = false ∧ ∃ i s1' s2', forI (Vx.tTup (tsCons (tName 2) (tsCons (tName 3) tsNil))) m_first_broken_1 (enumD k (l.map encI)) [.cl (encC cs), .cl (encI w), s1, s2] = .ok (.rt (.val (.int i))) [.cl (encC cs), .cl (encI w), s1', s2']) := by
    intro l
    induction l with
    | nil => exact fun k s1 s2 _ _ _ _ => .inl ⟨rfl, s1, s2, rfl⟩
    | cons c l ih =>
      intro k s1 s2 h1 h2 f1 f2
      have hh := holds_in (h1 c List.mem_cons_self) (h2 c List.mem_cons_self)
      have ih := ih (k + 1) (.cl (.int (k : Nat))) (.cl (encI c)) (fun x hx => h1 x (List.mem_cons_of_mem _ hx)) (fun x hx => h2 x (List.mem_cons_of_mem _ hx)) rfl rfl
      have et : Vx.tTup (tsCons (tName 2) (tsCons (tName 3) tsNil)) (.tuple [.int (k : Nat), encI c]) [.cl (encC cs), .cl (encI w), s1, s2] = some [.cl (encC cs), .cl (encI w), .cl (.int (k : Nat)), .cl (encI c)] := by
        simp -implicitDefEqProofs [f1, f2]
      have ee : enumD k ((c :: l).map encI) = .tuple [.int (k : Nat), encI c] :: enumD (k + 1) (l.map encI) := rfl
      rw [ee]
      unfold forI
      rw [et]
      dsimp only
      cases hb : holdsB c w with
      | true =>
        rw [hb] at hh
        have eb : m_first_broken_1 [.cl (encC cs), .cl (encI w), .cl (.int (k : Nat)), .cl (encI c)] = .ok .nx [.cl (encC cs), .cl (encI w), .cl (.int (k : Nat)), .cl (encI c)] := by
          simp -implicitDefEqProofs [m_first_broken_1, hh, truD]
        rw [eb, List.all_cons, hb, Bool.true_and]
        exact ih
      | false =>
        rw [hb] at hh
        have eb : m_first_broken_1 [.cl (encC cs), .cl (encI w), .cl (.int (k : Nat)), .cl (encI c)] = .ok (.rt (.val (.int (k : Nat)))) [.cl (encC cs), .cl (encI w), .cl (.int (k : Nat)), .cl (encI c)] := by
          simp -implicitDefEqProofs [m_first_broken_1, hh, truD]
        rw [eb, List.all_cons, hb, Bool.false_and]
        exact .inr ⟨rfl, _, _, _, rfl⟩
  rcases key cs 0 .un .un hf hz rfl rfl with ⟨h1, s1, s2, h2⟩ | ⟨h1, i, s1, s2, h2⟩
  · exact ⟨.none, by simp -implicitDefEqProofs [g_first_broken, runD, m_first_broken, h2], h1.symm⟩
  · exact ⟨.int i, by simp -implicitDefEqProofs [g_first_broken, runD, m_first_broken, h2], h1.symm⟩
def lowB : Nat → Nat → List Int
  | 0, _ => []
  | m + 1, n => ((n % 2 : Nat) : Int) :: lowB m (n / 2)
def bitsB (m n : Nat) : List Int := (lowB m n).reverse
theorem lowB_snoc : ∀ (k n : Nat), lowB (k + 1) n = lowB k n ++ [((n / 2 ^ k % 2 : Nat) : Int)]
  | 0, n => by simp [lowB]
  | k + 1, n => by
    show ((n % 2 : Nat) : Int) :: lowB (k + 1) (n / 2) = _
    rw [lowB_snoc k (n / 2)]
    show _ = ((n % 2 : Nat) : Int) :: (lowB k (n / 2) ++ [((n / 2 ^ (k + 1) % 2 : Nat) : Int)])
    rw [Nat.div_div_eq_div_mul, ← Nat.pow_succ']
def worldsL : Nat → List (List Int)
  | 0 => [[]]
  | m + 1 => (worldsL m).flatMap fun w => [w ++ [0], w ++ [1]]
theorem bits_worlds : ∀ m : Nat, (List.range (2 ^ m)).map (bitsB m) = worldsL m
  | 0 => rfl
  | m + 1 => by
    have key : ∀ k, (List.range (2 * k)).map (bitsB (m + 1)) = ((List.range k).map (bitsB m)).flatMap fun w => [w ++ [0], w ++ [1]] := by
      intro k
      induction k with
      | zero => rfl
      | succ k ih =>
        have e0 : bitsB (m + 1) (2 * k) = bitsB m k ++ [0] := by
          unfold bitsB
          show (((2 * k % 2 : Nat) : Int) :: lowB m (2 * k / 2)).reverse = _
          rw [show 2 * k % 2 = 0 by omega, show 2 * k / 2 = k by omega, List.reverse_cons]; rfl
        have e1 : bitsB (m + 1) (2 * k + 1) = bitsB m k ++ [1] := by
          unfold bitsB
          show ((((2 * k + 1) % 2 : Nat) : Int) :: lowB m ((2 * k + 1) / 2)).reverse = _
          rw [show (2 * k + 1) % 2 = 1 by omega, show (2 * k + 1) / 2 = k by omega, List.reverse_cons]; rfl
        rw [show 2 * (k + 1) = 2 * k + 1 + 1 by omega, List.range_succ, List.range_succ, List.range_succ, List.map_append, List.map_append, List.map_append, ih, List.flatMap_append]
        simp [e0, e1]
    rw [show 2 ^ (m + 1) = 2 * 2 ^ m by rw [Nat.pow_succ]; omega, key, bits_worlds m]
    rfl
theorem worlds_len : ∀ (m : Nat) (w : List Int), w ∈ worldsL m → w.length = m
  | 0, w, h => by
    have : w = [] := by simpa [worldsL] using h
    rw [this]; rfl
  | m + 1, w, h => by
    obtain ⟨v, hv, hw⟩ := List.mem_flatMap.mp h
    have := worlds_len m v hv
    simp only [List.mem_cons, List.not_mem_nil, or_false] at hw
    rcases hw with e | e <;> (subst e; simp [this])
theorem worlds_count : ∀ m : Nat, (worldsL m).length = 2 ^ m
  | m => by rw [← bits_worlds, List.length_map, List.length_range]
end Lb
set_option maxHeartbeats 2000000
namespace Lb
open PySem PySem.Spec L2 Vx
theorem rngD_get (n i : Nat) : (rngD 0 n)[i]? = if i < n then some (.int (i : Nat)) else none := by
  unfold rngD
  rw [List.getElem?_map]
  by_cases h : i < n
  · rw [if_pos h, List.getElem?_range h]; simp
  · rw [if_neg h, List.getElem?_eq_none (by simpa using h)]; rfl
theorem rngD_len (lo : Int) (n : Nat) : (rngD lo n).length = n := by simp [rngD]
theorem bits_of (n m : Nat) (hm : m < 1000) : g_bits_of [.int (n : Nat), .int (m : Nat)] = .ok false (encI (bitsB m n)) [] := by
  let P : Nat → Ev → Prop := fun i ρ => ∃ s, ρ = [.cl (.int ((n / 2 ^ i : Nat) : Int)), .cl (.int (m : Nat)), .ow (.list ((lowB i n).map .int)), s] ∧ free (some s) = true
  have len : ∀ i k, (lowB i k).length = i := fun i => by
    induction i with
    | zero => exact fun _ => rfl
    | succ i ih => exact fun k => by simp [lowB, ih]
  obtain ⟨ρ', e, s, eρ, _⟩ := forI_inv (t := tName 3) (b := m_bits_of_1) (P := P) (rngD 0 m) 0 [.cl (.int (n : Nat)), .cl (.int (m : Nat)), .ow (.list []), .un] ⟨.un, by simp [lowB], rfl⟩ fun i d ρ hd hp => by
    obtain ⟨s, eρ, hs⟩ := hp
    rw [Nat.zero_add] at eρ ⊢
    subst eρ
    have hi : i < m := by
      rw [rngD_get] at hd
      by_cases c : i < m
      · exact c
      · rw [if_neg c] at hd; cases hd
    have h1 : (lowB i n).length < sizeLine := by rw [len]; exact Nat.lt_of_lt_of_le (show i < 1000 by omega) (by decide)
    have q1 := fMod_int (i := ((n / 2 ^ i : Nat) : Int)) (j := 2) (by decide)
    have q2 := fDiv_int (i := ((n / 2 ^ i : Nat) : Int)) (j := 2) (okD (by decide) (by decide))
    refine ⟨[.cl (.int ((n / 2 ^ i : Nat) : Int)), .cl (.int (m : Nat)), .ow (.list ((lowB i n).map .int)), .cl d], [.cl (.int ((n / 2 ^ (i + 1) : Nat) : Int)), .cl (.int (m : Nat)), .ow (.list ((lowB (i + 1) n).map .int)), .cl d], by simp [hs], .inl ?_, _, rfl, rfl⟩
    rw [lowB_snoc]
    have e1 : ((n / 2 ^ i : Nat) : Int) % 2 = ((n / 2 ^ i % 2 : Nat) : Int) := by omega
    have e2 : ((n / 2 ^ i : Nat) : Int) / 2 = ((n / 2 ^ (i + 1) : Nat) : Int) := by rw [Nat.pow_succ, ← Nat.div_div_eq_div_mul]; omega
    rw [e1] at q1
    rw [e2] at q2
    generalize n / 2 ^ i = a at *
    generalize n / 2 ^ (i + 1) = b at *
    simp -implicitDefEqProofs [m_bits_of_1, h1, q1, q2]
  rw [Nat.zero_add, rngD_len] at eρ
  subst eρ
  have hr := rng1_of (j := (m : Int)) (by omega) (by omega)
  rw [show ((m : Int)).toNat = m from rfl] at hr
  simp -implicitDefEqProofs [g_bits_of, runD, m_bits_of, hr, e, bitsB]
theorem two_to_nat (m : Nat) (hm : m ≤ 1000) : g_two_to [.int (m : Nat)] = .ok false (.int ((2 ^ m : Nat) : Int)) [] := by
  have h : okPow 1 (m : Int) = true := by
    simp only [okPow, Bool.and_eq_true, decide_eq_true_eq]
    refine ⟨⟨by omega, by omega⟩, by decide⟩
  rw [two_to _ h]
  simp
/-- the law's own worlds -/
theorem worlds {m : Nat} (hm : m ≤ 12) : ∃ b, g__law_worlds [.int (m : Nat)] = .ok b (.list ((worldsL m).map encI)) [] := by
  -- one lap
  have lap : ∀ (ws : List (List Int)) (s1 s2 : Sl) (k : Nat), ws.length ≤ 4096 → (∀ w ∈ ws, w.length ≤ 12) → free (some s2) = true → ∃ s', forI (tName 4) m__law_worlds_1 (ws.map encI) [.cl (.int (m : Nat)), s1, .cl (.int (k : Nat)), .ow (.list []), s2] = .ok .nx [.cl (.int (m : Nat)), s1, .cl (.int (k : Nat)), .ow (.list ((ws.flatMap fun w => [w ++ [0], w ++ [1]]).map encI)), s'] ∧ free (some s') = true := by
    intro ws s1 s2 k hl hw h2
    let P : Nat → Ev → Prop := fun i ρ => ∃ s, ρ = [.cl (.int (m : Nat)), s1, .cl (.int (k : Nat)), .ow (.list (((ws.take i).flatMap fun w => [w ++ [0], w ++ [1]]).map encI)), s] ∧ free (some s) = true
    obtain ⟨ρ', e, s, eρ, hs⟩ := forI_inv (t := tName 4) (b := m__law_worlds_1) (P := P) (ws.map encI) 0 [.cl (.int (m : Nat)), s1, .cl (.int (k : Nat)), .ow (.list []), s2] ⟨s2, by simp, h2⟩ fun i d ρ hd hp => by
      obtain ⟨s, eρ, hs⟩ := hp
      rw [Nat.zero_add] at eρ ⊢
      subst eρ
      rw [List.getElem?_map] at hd
      cases hwi : ws[i]? with
      | none => rw [hwi] at hd; cases hd
      | some w =>
        rw [hwi] at hd
        have hd : encI w = d := Option.some.inj hd
        subst hd
        have hi : i < ws.length := (List.getElem?_eq_some_iff.mp hwi).1
        have ht : ws.take (i + 1) = ws.take i ++ [w] := by rw [List.take_add_one, hwi]; rfl
        have hwl := hw w (List.mem_of_getElem? hwi)
        have fl : ∀ l : List (List Int), (l.flatMap fun w => [w ++ [0], w ++ [1]]).length = 2 * l.length := fun l => by
          induction l with
          | nil => rfl
          | cons a l ih => rw [List.flatMap_cons, List.length_append, ih, List.length_cons]; simp; omega
        have z1 : w.length + 1 ≤ sizeLine := Nat.le_trans (show w.length + 1 ≤ 13 by omega) (by decide)
        have z2 : ((ws.take i).flatMap fun w => [w ++ [0], w ++ [1]]).length + 2 ≤ sizeLine := by
          rw [fl, List.length_take]
          exact Nat.le_trans (show _ ≤ 8194 by omega) (by decide)
        have z3 : (2 : Nat) ≤ sizeLine := by decide
        have z4 : (1 : Nat) ≤ sizeLine := by decide
        refine ⟨[.cl (.int (m : Nat)), s1, .cl (.int (k : Nat)), .ow (.list (((ws.take i).flatMap fun w => [w ++ [0], w ++ [1]]).map encI)), .cl (encI w)], [.cl (.int (m : Nat)), s1, .cl (.int (k : Nat)), .ow (.list (((ws.take (i + 1)).flatMap fun w => [w ++ [0], w ++ [1]]).map encI)), .cl (encI w)], by simp [hs], .inl ?_, _, rfl, rfl⟩
        rw [ht, List.flatMap_append, List.map_append]
        generalize ((ws.take i).flatMap fun w => [w ++ [0], w ++ [1]]) = acc at z2
        simp -implicitDefEqProofs [m__law_worlds_1, z1, z2, z3, z4]
    rw [Nat.zero_add, List.length_map, List.take_length] at eρ
    subst eρ
    exact ⟨s, e, hs⟩
  have wl : ∀ i, i ≤ 12 → (worldsL i).length ≤ 4096 := fun i hi => by
    rw [worlds_count]
    exact Nat.le_trans (Nat.pow_le_pow_right (by decide) hi) (by decide)
  let P : Nat → Ev → Prop := fun i ρ => ∃ s1 s2 s3 s4, ρ = [.cl (.int (m : Nat)), s1, s2, s3, s4] ∧ (s1 = .cl (.list ((worldsL i).map encI)) ∨ s1 = .ow (.list ((worldsL i).map encI))) ∧ free (some s2) = true ∧ free (some s3) = true ∧ free (some s4) = true
  obtain ⟨ρ', e, s1, s2, s3, s4, eρ, h1, _⟩ := forI_inv (t := tName 2) (b := m__law_worlds_2) (P := P) (rngD 0 m) 0 [.cl (.int (m : Nat)), .ow (.list [.tuple []]), .un, .un, .un] ⟨_, _, _, _, rfl, .inr rfl, rfl, rfl, rfl⟩ fun i d ρ hd hp => by
    obtain ⟨s1, s2, s3, s4, eρ, h1, h2, h3, h4⟩ := hp
    rw [Nat.zero_add] at h1 ⊢
    subst eρ
    rw [rngD_get] at hd
    by_cases c : i < m
    · rw [if_pos c] at hd
      have hd : (PyData.int (i : Nat)) = d := Option.some.inj hd
      subst hd
      obtain ⟨s', q1, q2⟩ := lap (worldsL i) (.cl (.list ((worldsL i).map encI))) s4 i (wl i (by omega)) (fun w hw => by rw [worlds_len i w hw]; omega) h4
      have z : (0 : Nat) ≤ sizeLine := Nat.zero_le _
      refine ⟨[.cl (.int (m : Nat)), s1, .cl (.int (i : Nat)), s3, s4], [.cl (.int (m : Nat)), .cl (.list ((worldsL (i + 1)).map encI)), .cl (.int (i : Nat)), .cl (.list ((worldsL (i + 1)).map encI)), s'], by simp [h2], .inl ?_, _, _, _, _, rfl, .inl rfl, rfl, rfl, q2⟩
      rcases h1 with h1 | h1 <;> subst h1
      · simp -implicitDefEqProofs [m__law_worlds_2, h3, q1, worldsL]
      · simp -implicitDefEqProofs [m__law_worlds_2, h3, q1, worldsL]
    · rw [if_neg c] at hd; cases hd
  rw [Nat.zero_add, rngD_len] at h1
  subst eρ
  have hr := rng1_of (j := (m : Int)) (by omega) (by omega)
  rw [show ((m : Int)).toNat = m from rfl] at hr
  have z : (1 : Nat) ≤ sizeLine := by decide
  rcases h1 with h1 | h1 <;> subst h1
  · exact ⟨false, by simp -implicitDefEqProofs [g__law_worlds, runD, m__law_worlds, hr, e, z]⟩
  · exact ⟨true, by simp -implicitDefEqProofs [g__law_worlds, runD, m__law_worlds, hr, e, z]⟩
def manyI (cs : List (List Int)) : Int := mxI 0 (cs.flatMap fun c => c.map absI)
theorem law_atoms {cs : List (List Int)} (h1 : cs.length ≤ 100) (h2 : ∀ c ∈ cs, c.length ≤ 100) : g__law_atoms_of [encC cs] = .ok true (.list ((cs.flatMap fun c => c.map absI).map .int)) [] := by
  let P : Nat → Ev → Prop := fun i ρ => ∃ s2 s3, ρ = [.cl (encC cs), .ow (.list (((cs.take i).flatMap fun c => c.map absI).map .int)), s2, s3] ∧ free (some s2) = true ∧ (s3 = .un)
  obtain ⟨ρ', e, s2, s3, eρ, _⟩ := forI_inv (t := tName 2) (b := m__law_atoms_of_2) (P := P) (cs.map encI) 0 [.cl (encC cs), .ow (.list []), .un, .un] ⟨.un, .un, by simp, rfl, rfl⟩ fun i d ρ hd hp => by
    obtain ⟨s2, s3, eρ, hs2, hs3⟩ := hp
    rw [Nat.zero_add] at eρ ⊢
    subst eρ hs3
    rw [List.getElem?_map] at hd
    cases hci : cs[i]? with
    | none => rw [hci] at hd; cases hd
    | some c =>
      rw [hci] at hd
      have hd : encI c = d := Option.some.inj hd
      subst hd
      have hi : i < cs.length := (List.getElem?_eq_some_iff.mp hci).1
      have hc := h2 c (List.mem_of_getElem? hci)
      have ht : cs.take (i + 1) = cs.take i ++ [c] := by rw [List.take_add_one, hci]; rfl
      have fl : ∀ l : List (List Int), (∀ c ∈ l, c.length ≤ 100) → (l.flatMap fun c => c.map absI).length ≤ 100 * l.length := fun l => by
        induction l with
        | nil => exact fun _ => by simp
        | cons a l ih =>
          intro h
          have h3 := ih fun c hc => h c (List.mem_cons_of_mem _ hc)
          have h4 := h a List.mem_cons_self
          rw [List.flatMap_cons, List.length_append, List.length_map, List.length_cons]
          omega
      have f3 := fl (cs.take i) fun c hc => h2 c (List.mem_of_mem_take hc)
      rw [List.length_take] at f3
      have z2 : ((cs.take i).flatMap fun c => c.map absI).length + c.length ≤ sizeLine := Nat.le_trans (show _ ≤ 10200 by omega) (by decide)
      generalize eacc : ((cs.take i).flatMap fun c => c.map absI) = acc at z2
      have h1 : mLc (iSeqM (mV 2)) (tName 3) tYesM m__law_atoms_of_1 [3] [.cl (encC cs), .ow (.list (acc.map .int)), .cl (encI c), .un] = .ok (.fr (.list (c.map fun x => .int (absI x)))) [.cl (encC cs), .ow (.list (acc.map .int)), .cl (encI c), .un] :=
        mLc_encM .int _ (by simp -implicitDefEqProofs) rfl (Nat.le_trans hc (by decide)) fun x _ => by simp -implicitDefEqProofs [m__law_atoms_of_1]
      refine ⟨[.cl (encC cs), .ow (.list (acc.map .int)), .cl (encI c), .un], [.cl (encC cs), .ow (.list ((acc ++ c.map absI).map .int)), .cl (encI c), .un], by simp [hs2], .inl ?_, .cl (encI c), .un, ?_, rfl, rfl⟩
      · simp -implicitDefEqProofs [m__law_atoms_of_2, h1, z2]
      · rw [ht, List.flatMap_append, eacc]; simp
  rw [Nat.zero_add, List.length_map, List.take_length] at eρ
  subst eρ
  simp -implicitDefEqProofs [g__law_atoms_of, runD, m__law_atoms_of, e]
theorem fMax_0 (l : List Int) : fMax [.list (.int 0 :: l.map .int)] = some (.val (.int (mxI 0 l))) := by
  have : intsD (.int 0 :: l.map .int) = some (0 :: l) := intsD_map (0 :: l)
  rw [fMax_1, lInts_list, this]; rfl
theorem atoms_len : ∀ {cs : List (List Int)}, (∀ c ∈ cs, c.length ≤ 100) → (cs.flatMap fun c => c.map absI).length ≤ 100 * cs.length
  | [], _ => by simp
  | a :: l, h => by
    have h3 := atoms_len (cs := l) fun c hc => h c (List.mem_cons_of_mem _ hc)
    have h4 := h a List.mem_cons_self
    rw [List.flatMap_cons, List.length_append, List.length_map, List.length_cons]
    omega
theorem law_many {cs : List (List Int)} (h1 : cs.length ≤ 100) (h2 : ∀ c ∈ cs, c.length ≤ 100) : g__law_many [encC cs] = .ok false (.int (manyI cs)) [] := by
  have e := law_atoms h1 h2
  have l := atoms_len h2
  unfold manyI
  generalize (cs.flatMap fun c => c.map absI) = as at *
  have z1 : (1 : Nat) ≤ sizeLine := by decide
  have z2 : 1 + as.length ≤ sizeLine := Nat.le_trans (show _ ≤ 10001 by omega) (by decide)
  simp -implicitDefEqProofs [g__law_many, runD, m__law_many, e, z1, z2, fMax_0, -fMax_1]
/-- the last literal is the greatest one -/
def lastI (c : List Int) : Int := absI (c.getLastD 0)
theorem many_in {cs : List (List Int)} (h1 : cs.length ≤ 100) (h2 : ∀ c ∈ cs, c.length ≤ 100) : g_many_in [encC cs] = .ok false (.int (mxI 0 ((cs.filter fun c => decide (0 < c.length)).map lastI))) [] := by
  have hz : cs.length ≤ sizeLine := Nat.le_trans h1 (by decide)
  have c1 : mLc (iSeqM (mV 0)) (tName 1) m_many_in_1 m_many_in_2 [1] [.cl (encC cs), .un] = .ok (.fr (.list ((cs.filter fun c => decide (0 < c.length)).map fun c => .int (lastI c)))) [.cl (encC cs), .un] :=
    mLc_encF encI _ _ (by simp -implicitDefEqProofs) rfl hz (fun c _ => by
      simp -implicitDefEqProofs [m_many_in_1]) fun c hc hp => by
      have hp := of_decide_eq_true hp
      have ei : atI (c.map PyData.int) (-1) = some (.int (c.getLastD 0)) := by
        unfold atI ixN
        rw [if_neg (by decide), List.length_map, if_pos (by omega)]
        show (c.map PyData.int)[(-1 + (c.length : Int)).toNat]? = _
        rw [show (-1 + (c.length : Int)).toNat = c.length - 1 by omega, List.getElem?_map, ← List.getLast?_eq_getElem?, List.getLastD_eq_getLast?]
        cases q : c.getLast? with
        | none => rw [List.getLast?_eq_none_iff] at q; subst q; simp at hp
        | some x => rfl
      simp -implicitDefEqProofs [m_many_in_2, ei, lastI]
  have fl : (cs.filter fun c => decide (0 < c.length)).length ≤ cs.length := List.length_filter_le _ _
  have z1 : (1 : Nat) ≤ sizeLine := by decide
  generalize (cs.filter fun c => decide (0 < c.length)) = fs at *
  have z2 : 1 + fs.length ≤ sizeLine := Nat.le_trans (show _ ≤ 101 by omega) (by decide)
  have m0 : fMax [.list (.int 0 :: fs.map fun c => .int (lastI c))] = some (.val (.int (mxI 0 (fs.map lastI)))) := by
    have := fMax_0 (fs.map lastI)
    rwa [List.map_map] at this
  simp -implicitDefEqProofs [g_many_in, runD, m_many_in, c1, z1, z2, m0, -fMax_1]
theorem mxI_le_iff : ∀ (l : List Int) (m k : Int), mxI m l ≤ k ↔ m ≤ k ∧ ∀ x ∈ l, x ≤ k := fun l m k => by
  obtain ⟨h1, h2⟩ := mxI_le l m
  refine ⟨fun h => ⟨Int.le_trans h1 h, fun x hx => Int.le_trans (h2 x hx) h⟩, fun ⟨q1, q2⟩ => ?_⟩
  rcases mxI_mem l m with e | e
  · rw [e]; exact q1
  · exact q2 _ e
/-- the last of an ascending clause is the greatest -/
theorem last_max {c : List Int} (h : c.Pairwise fun a b => absI a < absI b) (h0 : 0 < c.length) : (∀ x ∈ c, absI x ≤ lastI c) ∧ ∃ x ∈ c, absI x = lastI c := by
  induction c with
  | nil => simp at h0
  | cons a c ih =>
    obtain ⟨h1, h2⟩ := List.pairwise_cons.mp h
    cases c with
    | nil => exact ⟨fun x hx => by rw [List.mem_singleton.mp hx]; exact Int.le_refl _, a, List.mem_singleton.mpr rfl, rfl⟩
    | cons b c =>
      obtain ⟨q1, x, q2, q3⟩ := ih h2 (Nat.succ_pos _)
      have e : lastI (a :: b :: c) = lastI (b :: c) := by unfold lastI; rfl
      rw [e]
      refine ⟨fun y hy => ?_, x, List.mem_cons_of_mem _ q2, q3⟩
      rcases List.mem_cons.mp hy with z | z
      · subst z
        have := h1 b List.mem_cons_self
        have := q1 b List.mem_cons_self
        omega
      · exact q1 y z
theorem many_eq {cs : List (List Int)} (h : ∀ c ∈ cs, c.Pairwise fun a b => absI a < absI b) : mxI 0 ((cs.filter fun c => decide (0 < c.length)).map lastI) = manyI cs := by
  unfold manyI
  apply Int.le_antisymm
  · rw [mxI_le_iff]
    obtain ⟨g1, g2⟩ := mxI_le (cs.flatMap fun c => c.map absI) 0
    refine ⟨g1, fun x hx => ?_⟩
    obtain ⟨c, hc, e⟩ := List.mem_map.mp hx
    obtain ⟨hc1, hc2⟩ := List.mem_filter.mp hc
    obtain ⟨_, y, y1, y2⟩ := last_max (h c hc1) (of_decide_eq_true hc2)
    rw [← e, ← y2]
    exact g2 _ (List.mem_flatMap.mpr ⟨c, hc1, List.mem_map.mpr ⟨y, y1, rfl⟩⟩)
  · rw [mxI_le_iff]
    obtain ⟨g1, g2⟩ := mxI_le ((cs.filter fun c : List Int => decide (0 < c.length)).map lastI) 0
    refine ⟨g1, fun x hx => ?_⟩
    obtain ⟨c, hc, hx⟩ := List.mem_flatMap.mp hx
    obtain ⟨y, y1, e⟩ := List.mem_map.mp hx
    have h0 : 0 < c.length := List.length_pos_of_mem y1
    have := (last_max (h c hc) h0).1 y y1
    rw [← e]
    exact Int.le_trans this (g2 _ (List.mem_map.mpr ⟨c, List.mem_filter.mpr ⟨hc, decide_eq_true h0⟩, rfl⟩))
theorem many_le {cs : List (List Int)} {c : List Int} (hc : c ∈ cs) {x : Int} (hx : x ∈ c) : absI x ≤ manyI cs :=
  (mxI_le (cs.flatMap fun c => c.map absI) 0).2 _ (List.mem_flatMap.mpr ⟨c, hc, List.mem_map.mpr ⟨x, hx, rfl⟩⟩)
theorem many_nn (cs : List (List Int)) : 0 ≤ manyI cs := (mxI_le _ 0).1
theorem many_up {cs : List (List Int)} {k : Int} (h0 : 0 ≤ k) (h : ∀ c ∈ cs, ∀ x ∈ c, absI x ≤ k) : manyI cs ≤ k := (mxI_le_iff _ _ _).mpr ⟨h0, fun x hx => by
  obtain ⟨c, hc, hx⟩ := List.mem_flatMap.mp hx
  obtain ⟨y, y1, e⟩ := List.mem_map.mp hx
  rw [← e]; exact h c hc y y1⟩
def breaksB (cs : List (List Int)) (w : List Int) : Bool := cs.any fun c => !holdsB c w
def modelsL (cs : List (List Int)) (m : Nat) : List (List Int) := (worldsL m).filter fun w => !breaksB cs w
/-- clauses as the law draws them: at most so many, ascending, of atoms 1 to 12 -/
structure CsOk (cs : List (List Int)) : Prop where
  many : cs.length ≤ 80
  ok : ∀ c ∈ cs, ClOk c
theorem CsOk.many_le {cs : List (List Int)} (h : CsOk cs) : manyI cs ≤ 12 := many_up (by decide) fun c hc x hx => by
  obtain ⟨h1, h2, _⟩ := (h.ok c hc).atoms x hx
  unfold absI; split <;> omega
theorem CsOk.fits {cs : List (List Int)} (h : CsOk cs) {m : Nat} (hm : manyI cs ≤ m) {w : List Int} (hw : w ∈ worldsL m) {c : List Int} (hc : c ∈ cs) : Fits c w := fun x hx =>
  ⟨((h.ok c hc).atoms x hx).2.2, by rw [worlds_len m w hw]; exact Int.le_trans (Lb.many_le hc hx) hm⟩
theorem law_models {cs : List (List Int)} (h : CsOk cs) : g__law_models [encC cs] = .ok true (.list ((modelsL cs (manyI cs).toNat).map encI)) [] := by
  have hl : ∀ c ∈ cs, c.length ≤ 100 := fun c hc => Nat.le_trans (h.ok c hc).len (by decide)
  have e1 := law_many (Nat.le_trans h.many (by decide)) hl
  have hm : ((manyI cs).toNat : Int) = manyI cs := Int.toNat_of_nonneg (many_nn cs)
  obtain ⟨b, e2⟩ := worlds (m := (manyI cs).toNat) (by have := h.many_le; omega)
  rw [hm] at e2
  have hz : (worldsL (manyI cs).toNat).length ≤ sizeLine := by
    rw [worlds_count]
    exact Nat.le_trans (Nat.pow_le_pow_right (by decide) (show (manyI cs).toNat ≤ 12 by have := h.many_le; omega)) (by decide)
  have c2 : ∀ w ∈ worldsL (manyI cs).toNat, m__law_models_2 [.cl (encC cs), .cl (encI w), .un] = .ok (!breaksB cs w) [.cl (encC cs), .cl (encI w), .un] := fun w hw => by
    have c1 : mLc (iSeqM (mV 0)) (tName 2) tYesM m__law_models_1 [2] [.cl (encC cs), .cl (encI w), .un] = .ok (.fr (.list (cs.map fun c => .bool (!holdsB c w)))) [.cl (encC cs), .cl (encI w), .un] :=
      mLc_encM encI _ (by simp -implicitDefEqProofs) rfl (Nat.le_trans h.many (by decide)) fun c hc => by
        have e := breaks (h.fits (by omega) hw hc) (h.ok c hc).size
        simp -implicitDefEqProofs [m__law_models_1, e]
    have a1 := fAny_map (fun c => !holdsB c w) cs
    simp -implicitDefEqProofs [m__law_models_2, c1, a1, breaksB]
  have c3 : mLc (iSeqM (mCall g__law_worlds [.pl] (aCons (mCall g__law_many [.pl] (aCons (mV 0) aNil)) aNil))) (tName 1) m__law_models_2 m__law_models_3 [1] [.cl (encC cs), .un, .un] = .ok (.fr (.list ((modelsL cs (manyI cs).toNat).map encI))) [.cl (encC cs), .un, .un] :=
    mLc_encF encI _ _ (by cases b <;> simp -implicitDefEqProofs [e1, e2]) rfl hz (fun w hw => c2 w hw) fun w hw _ => by simp -implicitDefEqProofs [m__law_models_3]
  simp -implicitDefEqProofs [g__law_models, runD, m__law_models, c3]
end Lb
set_option maxHeartbeats 2000000
namespace Lb
open PySem PySem.Spec L2 Vx
theorem rngD_map (n : Nat) : rngD 0 n = (List.range n).map fun (i : Nat) => PyData.int (i : Nat) := by
  unfold rngD
  simp
theorem not_any {α : Type} (p : α → Bool) : ∀ l : List α, (!l.any fun c => !p c) = l.all p
  | [] => rfl
  | a :: l => by rw [List.any_cons, List.all_cons, ← not_any p l]; cases p a <;> rfl
theorem models_of {cs : List (List Int)} (h : CsOk cs) (h10 : manyI cs ≤ 10) : g_models_of [encC cs] = .ok true (.list ((modelsL cs (manyI cs).toNat).map encI)) [] := by
  have hl : ∀ c ∈ cs, c.length ≤ 100 := fun c hc => Nat.le_trans (h.ok c hc).len (by decide)
  have e0 := check_ok h.many h.ok
  have e1 := many_in (Nat.le_trans h.many (by decide)) hl
  rw [many_eq fun c hc => (h.ok c hc).up] at e1
  have hm : ((manyI cs).toNat : Int) = manyI cs := Int.toNat_of_nonneg (many_nn cs)
  have e2 := two_to_nat (manyI cs).toNat (by omega)
  have hp : 2 ^ (manyI cs).toNat ≤ 1024 := Nat.le_trans (Nat.pow_le_pow_right (by decide) (show (manyI cs).toNat ≤ 10 by omega)) (by decide)
  have hr := rng1_of (j := ((2 ^ (manyI cs).toNat : Nat) : Int)) (Int.natCast_nonneg _) (Int.lt_of_le_of_lt (Int.ofNat_le.mpr hp) (by decide))
  rw [show (((2 ^ (manyI cs).toNat : Nat) : Int)).toNat = 2 ^ (manyI cs).toNat from rfl] at hr
  have hn : ¬ (10 : Int) < manyI cs := by omega
  obtain ⟨N, hN⟩ : ∃ N, N = 2 ^ (manyI cs).toNat := ⟨_, rfl⟩
  rw [← hN] at hr e2 hp
  have hzz : (1024 : Nat) ≤ sizeLine := by decide
  generalize em : (manyI cs).toNat = m at *
  rw [← hm] at e1 hn
  have c1 : mLc (iFn rng1 (aCons (mCall g_two_to [.pl] (aCons (mV 1) aNil)) aNil)) (tName 3) tYesM m_models_of_3 [3] [.cl (encC cs), .cl (.int (m : Nat)), .un, .un, .un] = .ok (.fr (.list ((worldsL m).map encI))) [.cl (encC cs), .cl (.int (m : Nat)), .un, .un, .un] := by
    have := mLc_encM (it := iFn rng1 (aCons (mCall g_two_to [.pl] (aCons (mV 1) aNil)) aNil)) (e := m_models_of_3) (v := 3) (l := List.range N) (fun (i : Nat) => PyData.int (i : Nat)) (fun i => encI (bitsB m i)) (ρ := [.cl (encC cs), .cl (.int (m : Nat)), .un, .un, .un]) (ρ1 := [.cl (encC cs), .cl (.int (m : Nat)), .un, .un, .un])
      (by rw [← rngD_map]; simp -implicitDefEqProofs [e2, hr]) rfl (by rw [List.length_range]; omega) fun i _ => by
        have e := bits_of i m (by omega)
        simp -implicitDefEqProofs [m_models_of_3, e]
    rw [this, ← bits_worlds, List.map_map, hN]
    rfl
  have c2 : mLc (iSeqM (mV 2)) (tName 4) m_models_of_1 m_models_of_2 [4] [.cl (encC cs), .cl (.int (m : Nat)), .ow (.list ((worldsL m).map encI)), .un, .un] = .ok (.fr (.list ((modelsL cs m).map encI))) [.cl (encC cs), .cl (.int (m : Nat)), .cl (.list ((worldsL m).map encI)), .un, .un] :=
    mLc_encF encI _ _ (by simp -implicitDefEqProofs) rfl (by rw [worlds_count, ← hN]; omega) (fun w hw => by
      obtain ⟨d, e, en⟩ := first_broken (cs := cs) (w := w) (fun c hc => h.fits (by omega) hw hc) (fun c hc => (h.ok c hc).size)
      have eb : (!breaksB cs w) = isNo d := by
        rw [en]; exact not_any (fun c => holdsB c w) cs
      rw [eb]
      simp -implicitDefEqProofs [m_models_of_1, e]) fun w hw _ => by simp -implicitDefEqProofs [m_models_of_2]
  simp -implicitDefEqProofs [g_models_of, runD, m_models_of, e0, e1, hn, c1, c2]
end Lb
set_option maxHeartbeats 2000000
namespace Lb
open PySem PySem.Spec L2 Vx
def subB (y x : List Int) : Bool := y.all fun a => decide (a ∈ x)
theorem is_part (y x : List Int) (hz : y.length ≤ sizeLine) : g_is_part [encI y, encI x] = .ok false (.bool (subB y x)) [] := by
  have c1 : mLc (iSeqM (mV 0)) (tName 2) tYesM m_is_part_1 [2] [.cl (encI y), .cl (encI x), .un] = .ok (.fr (.list (y.map fun a => .bool (decide (a ∈ x))))) [.cl (encI y), .cl (encI x), .un] :=
    mLc_encM .int _ (by simp -implicitDefEqProofs) rfl hz fun a _ => by
      have e := fIn_I a x
      simp -implicitDefEqProofs [m_is_part_1, e]
  have a1 := fAll_map (fun a => decide (a ∈ x)) y
  simp -implicitDefEqProofs [g_is_part, runD, m_is_part, c1, a1, subB]
theorem has_all (x y : List Int) (hz : y.length ≤ sizeLine) : g__law_has_all [encI x, encI y] = .ok false (.bool (subB y x)) [] := by
  have c1 : mLc (iSeqM (mV 1)) (tName 2) tYesM m__law_has_all_1 [2] [.cl (encI x), .cl (encI y), .un] = .ok (.fr (.list (y.map fun a => .bool (decide (a ∈ x))))) [.cl (encI x), .cl (encI y), .un] :=
    mLc_encM .int _ (by simp -implicitDefEqProofs) rfl hz fun a _ => by
      have e := fIn_I a x
      simp -implicitDefEqProofs [m__law_has_all_1, e]
  have a1 := fAll_map (fun a => decide (a ∈ x)) y
  simp -implicitDefEqProofs [g__law_has_all, runD, m__law_has_all, c1, a1, subB]
theorem mLc_pairM {α : Type} {it : M (List D)} {e : _} {v u : Nat} {ρ ρ1 : Ev} {l : List α} (eb ec : α → D) (f : α → D) (hi : it ρ = .ok (l.map fun q => PyData.tuple [eb q, ec q]) ρ1) (hvu : v ≠ u) (hw : wipable ρ1[v]? = true) (hw2 : wipable ρ1[u]? = true) (hz : l.length ≤ sizeLine)
    (h : ∀ q ∈ l, mK e ((ρ1.set v (.cl (eb q))).set u (.cl (ec q))) = .ok (f q) ((ρ1.set v (.cl (eb q))).set u (.cl (ec q)))) :
    mLc it (Vx.tTup (tsCons (tName v) (tsCons (tName u) tsNil))) tYesM e [v, u] ρ = .ok (.fr (.list (l.map f))) ρ1 := by
  have := mLc_enc (vs := [v, u]) (t := Vx.tTup (tsCons (tName v) (tsCons (tName u) tsNil))) (tt := tYesM) (e := e) (fun q => PyData.tuple [eb q, ec q]) (fun _ => true) f hi (by simp [hw, hw2]) hz fun q hq => ⟨_, (set2 hvu hw hw2).1, (set2 hvu hw hw2).2, rfl, fun _ => h q hq⟩
  rwa [List.filter_eq_self.mpr fun _ _ => rfl] at this
/-- the clause c at the place k falls -/
def dropB (cs : List (List Int)) (k : Nat) (c : List Int) : Bool := cs.zipIdx.any fun q => subB q.1 c && (!decide (q.1 = c) || decide (q.2 < k))
def thinL (cs : List (List Int)) : List (List Int) := (cs.zipIdx.filter fun q => !dropB cs q.2 q.1).map (·.1)
theorem thinned {cs : List (List Int)} (h : CsOk cs) : g_thinned [encC cs] = .ok false (encC (thinL cs)) [] := by
  have e0 := check_ok h.many h.ok
  have sz : ∀ c ∈ cs, c.length ≤ sizeLine := fun c hc => (h.ok c hc).size
  have hzl : cs.length ≤ sizeLine := Nat.le_trans h.many (by decide)
  let P : Nat → Ev → Prop := fun i ρ => ∃ s2 s3, ρ = [.cl (encC cs), .ow (.list ((((cs.zipIdx.take i).filter fun q => !dropB cs q.2 q.1).map (·.1)).map encI)), s2, s3, .un, .un] ∧ free (some s2) = true ∧ free (some s3) = true
  obtain ⟨ρ', e, s2, s3, eρ, _⟩ := forI_inv (t := Vx.tTup (tsCons (tName 2) (tsCons (tName 3) tsNil))) (b := m_thinned_2) (P := P) (enumD 0 (cs.map encI)) 0 [.cl (encC cs), .ow (.list []), .un, .un, .un, .un] ⟨.un, .un, by simp, rfl, rfl⟩ fun i d ρ hd hp => by
    obtain ⟨s2, s3, eρ, hs2, hs3⟩ := hp
    rw [Nat.zero_add] at eρ ⊢
    subst eρ
    rw [enum_enc, List.getElem?_map] at hd
    cases hci : cs.zipIdx[i]? with
    | none => rw [hci] at hd; cases hd
    | some q =>
      rw [hci] at hd
      obtain ⟨c, k⟩ := q
      have hd : PyData.tuple [.int (k : Nat), encI c] = d := Option.some.inj hd
      subst hd
      have hcm : c ∈ cs := by
        have := List.mem_of_getElem? hci
        exact (List.mem_zipIdx_iff_getElem?.mp this) |> List.mem_of_getElem?
      have ht : cs.zipIdx.take (i + 1) = cs.zipIdx.take i ++ [(c, k)] := by rw [List.take_add_one, hci]; rfl
      have hl : (((cs.zipIdx.take i).filter fun q => !dropB cs q.2 q.1).map (·.1)).length < sizeLine := by
        rw [List.length_map]
        refine Nat.lt_of_le_of_lt (List.length_filter_le _ _) ?_
        rw [List.length_take, List.length_zipIdx]
        exact Nat.lt_of_le_of_lt (show _ ≤ 80 by have := h.many; omega) (by decide)
      have fe : ((cs.zipIdx.take (i + 1)).filter fun q => !dropB cs q.2 q.1).map (·.1) = ((cs.zipIdx.take i).filter fun q => !dropB cs q.2 q.1).map (·.1) ++ (if dropB cs k c then [] else [c]) := by
        rw [ht, List.filter_append, List.map_append]
        congr 1
        cases hb : dropB cs k c <;> simp [hb]
      generalize ((cs.zipIdx.take i).filter fun q => !dropB cs q.2 q.1).map (·.1) = acc at hl fe ⊢
      have c1 : mLc (iFnK enm (kiCons (mV 0) kiNil)) (Vx.tTup (tsCons (tName 4) (tsCons (tName 5) tsNil))) tYesM m_thinned_1 [4, 5] [.cl (encC cs), .ow (.list (acc.map encI)), .cl (.int (k : Nat)), .cl (encI c), .un, .un] =
          .ok (.fr (.list (cs.zipIdx.map fun q => .bool (subB q.1 c && (!decide (q.1 = c) || decide (q.2 < k)))))) [.cl (encC cs), .ow (.list (acc.map encI)), .cl (.int (k : Nat)), .cl (encI c), .un, .un] := by
        refine mLc_pairM (v := 4) (u := 5) (fun q : List Int × Nat => .int (q.2 : Nat)) (fun q => encI q.1) (fun q => .bool (subB q.1 c && (!decide (q.1 = c) || decide (q.2 < k)))) (l := cs.zipIdx) ?_ (by decide) rfl rfl (by rw [List.length_zipIdx]; exact hzl) (fun q hq => ?_)
        · have := enum_enc encI cs 0
          simp -implicitDefEqProofs [this]
        · obtain ⟨y, j⟩ := q
          have hy : y ∈ cs := List.mem_of_getElem? (List.mem_zipIdx_iff_getElem?.mp hq)
          have ep := is_part y c (sz y hy)
          have en := fNe_I y c
          cases hs : subB y c
          · rw [hs] at ep
            simp -implicitDefEqProofs [m_thinned_1, ep]
          · rw [hs] at ep
            by_cases hyc : y = c
            · rw [hyc] at ep en ⊢
              simp -implicitDefEqProofs [m_thinned_1, ep, en]
            · simp -implicitDefEqProofs [m_thinned_1, ep, en, hyc]
      have a1 := fAny_map (fun q : List Int × Nat => subB q.1 c && (!decide (q.1 = c) || decide (q.2 < k))) cs.zipIdx
      refine ⟨[.cl (encC cs), .ow (.list (acc.map encI)), .cl (.int (k : Nat)), .cl (encI c), .un, .un], [.cl (encC cs), .ow (.list ((acc ++ (if dropB cs k c then [] else [c])).map encI)), .cl (.int (k : Nat)), .cl (encI c), .un, .un], by simp [hs2, hs3], .inl ?_, .cl (.int (k : Nat)), .cl (encI c), by rw [fe], rfl, rfl⟩
      have eb : (cs.zipIdx.any fun q => subB q.1 c && (!decide (q.1 = c) || decide (q.2 < k))) = dropB cs k c := rfl
      rw [eb] at a1
      cases hb : dropB cs k c
      · rw [hb] at a1
        simp -implicitDefEqProofs [m_thinned_2, c1, a1, hl]
      · rw [hb] at a1
        simp -implicitDefEqProofs [m_thinned_2, c1, a1]
  rw [Nat.zero_add, enumD_len, List.length_map, List.take_of_length_le (by rw [List.length_zipIdx]; exact Nat.le_refl _)] at eρ
  subst eρ
  have et : ((cs.zipIdx.filter fun q => !dropB cs q.2 q.1).map (·.1)) = thinL cs := rfl
  rw [et] at e
  simp -implicitDefEqProofs [g_thinned, runD, m_thinned, e0, e]
end Lb
set_option maxHeartbeats 2000000
namespace Lb
open PySem PySem.Spec L2 Vx
def keepT (cs : List (List Int)) (k : Nat) (c : List Int) : Bool := !((cs.take k).any fun o => subB o c) && !((cs.drop (k + 1)).any fun o => subB o c && !decide (o = c))
theorem any_congr {α : Type} {p q : α → Bool} {l : List α} (h : ∀ x ∈ l, p x = q x) : l.any p = l.any q := by
  induction l with
  | nil => rfl
  | cons a l ih => rw [List.any_cons, List.any_cons, h a List.mem_cons_self, ih fun x hx => h x (List.mem_cons_of_mem _ hx)]
theorem subB_refl (c : List Int) : subB c c = true := by
  rw [subB, List.all_eq_true]; intro a ha; exact decide_eq_true ha
theorem keep_drop {cs : List (List Int)} {k : Nat} {c : List Int} (h : cs[k]? = some c) : keepT cs k c = !dropB cs k c := by
  unfold keepT dropB
  have hk : k < cs.length := (List.getElem?_eq_some_iff.mp h).1
  have e : cs = cs.take k ++ c :: cs.drop (k + 1) := by
    have e1 : cs[k] = c := (List.getElem?_eq_some_iff.mp h).2
    rw [← e1, List.getElem_cons_drop, List.take_append_drop]
  have lt : (cs.take k).length = k := by rw [List.length_take]; omega
  generalize cs.take k = a at *
  generalize cs.drop (k + 1) = b at *
  rw [e, List.zipIdx_append, List.any_append, List.zipIdx_cons, List.any_cons, lt, Nat.zero_add]
  have q1 : (a.zipIdx.any fun q => subB q.1 c && (!decide (q.1 = c) || decide (q.2 < k))) = a.any fun o => subB o c := by
    rw [any_congr (q := fun q : List Int × Nat => subB q.1 c) fun x hx => ?_]
    · have : a = a.zipIdx.map Prod.fst := by simp
      conv => rhs; rw [this]
      rw [List.any_map]; rfl
    · have := List.mem_zipIdx hx
      have h2 : x.2 < k := by omega
      simp [h2]
  have q2 : ((b.zipIdx (k + 1)).any fun q => subB q.1 c && (!decide (q.1 = c) || decide (q.2 < k))) = b.any fun o => subB o c && !decide (o = c) := by
    rw [any_congr (q := fun q : List Int × Nat => subB q.1 c && !decide (q.1 = c)) fun x hx => ?_]
    · have : b = (b.zipIdx (k + 1)).map Prod.fst := by simp
      conv => rhs; rw [this]
      rw [List.any_map]; rfl
    · have := List.mem_zipIdx hx
      have h2 : ¬ x.2 < k := by omega
      simp [h2]
  rw [q1, q2]
  simp
theorem truD_bool (b : Bool) : truD (.bool b) = some b := rfl
theorem none_of {α : Type} (p : α → Bool) (l : List α) : (l.filter p).length = 0 ↔ l.any p = false := by
  rw [List.length_eq_zero_iff, List.filter_eq_nil_iff, List.any_eq_false]
theorem no_both {α : Type} (p q : α → Bool) (l m : List α) : decide (((l.filter p).length : Int) + ((m.filter q).length : Int) = 0) = (!l.any p && !m.any q) := by
  have h1 := none_of p l
  have h2 := none_of q m
  cases a : l.any p <;> cases b : m.any q <;> rw [a] at h1 <;> rw [b] at h2 <;> simp only [Bool.true_eq_false, iff_false, iff_true] at h1 h2 <;> simp only [Bool.not_true, Bool.not_false, Bool.and_true, Bool.and_false, decide_eq_true_eq, decide_eq_false_iff_not] <;> omega
theorem one_size : 1 ≤ sizeLine := by decide
theorem fRep_1 (d : D) : fRep (.list [d]) (.int 1) = some (.fr (.list [d])) := by
  show (if (okIx 1 && decide ([d].length * 1 ≤ sizeLine)) = true then some (Op.fr (.list (List.replicate 1 [d]).flatten)) else none) = _
  rw [if_pos (by rw [Bool.and_eq_true]; exact ⟨okIx_of (by decide) (by decide), decide_eq_true one_size⟩)]
  rfl
theorem fRep_0 (d : D) : fRep (.list [d]) (.int 0) = some (.fr (.list [])) := by
  show (if (okIx 0 && decide ([d].length * 0 ≤ sizeLine)) = true then some (Op.fr (.list (List.replicate 0 [d]).flatten)) else none) = _
  rw [if_pos (by rw [Bool.and_eq_true]; exact ⟨okIx_of (by decide) (by decide), decide_eq_true (Nat.zero_le _)⟩)]
  rfl
theorem law_thin {cs : List (List Int)} (h : CsOk cs) : g__law_thin [encC cs] = .ok false (encC (thinL cs)) [] := by
  have sz : ∀ c ∈ cs, c.length ≤ sizeLine := fun c hc => (h.ok c hc).size
  have hz80 := h.many
  let P : Nat → Ev → Prop := fun i ρ => ∃ s2 s3 s4 s5, ρ = [.cl (encC cs), .ow (.list ((((cs.zipIdx.take i).filter fun q => !dropB cs q.2 q.1).map (·.1)).map encI)), s2, s3, s4, s5, .un] ∧ free (some s2) = true ∧ free (some s3) = true ∧ free (some s4) = true ∧ free (some s5) = true
  obtain ⟨ρ', e, s2, s3, s4, s5, eρ, _⟩ := forI_inv (t := Vx.tTup (tsCons (tName 2) (tsCons (tName 3) tsNil))) (b := m__law_thin_5) (P := P) (enumD 0 (cs.map encI)) 0 [.cl (encC cs), .ow (.list []), .un, .un, .un, .un, .un] ⟨.un, .un, .un, .un, by simp, rfl, rfl, rfl, rfl⟩ fun i d ρ hd hp => by
    obtain ⟨s2, s3, s4, s5, eρ, hs2, hs3, hs4, hs5⟩ := hp
    rw [Nat.zero_add] at eρ ⊢
    subst eρ
    rw [enum_enc, List.getElem?_map] at hd
    cases hci : cs.zipIdx[i]? with
    | none => rw [hci] at hd; cases hd
    | some q =>
      rw [hci] at hd
      obtain ⟨c, k⟩ := q
      have hd : PyData.tuple [.int (k : Nat), encI c] = d := Option.some.inj hd
      subst hd
      have hck : cs[k]? = some c := by
        have := List.mem_of_getElem? hci
        exact List.mem_zipIdx_iff_getElem?.mp this
      have hcm : c ∈ cs := List.mem_of_getElem? hck
      have hsz := sz c hcm
      have ht : cs.zipIdx.take (i + 1) = cs.zipIdx.take i ++ [(c, k)] := by rw [List.take_add_one, hci]; rfl
      have hl : (((cs.zipIdx.take i).filter fun q => !dropB cs q.2 q.1).map (·.1)).length ≤ 80 := by
        rw [List.length_map]
        refine Nat.le_trans (List.length_filter_le _ _) ?_
        rw [List.length_take, List.length_zipIdx]
        omega
      have fe : ((cs.zipIdx.take (i + 1)).filter fun q => !dropB cs q.2 q.1).map (·.1) = ((cs.zipIdx.take i).filter fun q => !dropB cs q.2 q.1).map (·.1) ++ (if dropB cs k c then [] else [c]) := by
        rw [ht, List.filter_append, List.map_append]
        congr 1
        cases hb : dropB cs k c <;> simp [hb]
      generalize ((cs.zipIdx.take i).filter fun q => !dropB cs q.2 q.1).map (·.1) = acc at hl fe ⊢
      have ct := cut_to (cs.map encI) k
      have cf : cutD (cs.map encI) (some ((k : Int) + 1)) none = (cs.map encI).drop (k + 1) := cut_from (cs.map encI) (k + 1)
      rw [← List.map_take] at ct
      rw [← List.map_drop] at cf
      have c1 : mLc (iSeqM (mSl fSl (mV 0) bNo (bAt (mV 2)))) (tName 6) m__law_thin_3 m__law_thin_4 [6] [.cl (encC cs), .ow (.list (acc.map encI)), .cl (.int (k : Nat)), .cl (encI c), s4, s5, .un] = .ok (.fr (.list (((cs.take k).filter fun o => subB o c).map encI))) [.cl (encC cs), .ow (.list (acc.map encI)), .cl (.int (k : Nat)), .cl (encI c), s4, s5, .un] :=
        mLc_encF encI (fun o => subB o c) _ (by simp -implicitDefEqProofs [ct]) rfl (by rw [List.length_take]; exact Nat.le_trans (show _ ≤ 80 by omega) (by decide)) (fun o ho => by
          have := has_all c o (sz o (List.mem_of_mem_take ho))
          simp -implicitDefEqProofs [m__law_thin_3, this, truD_bool]) fun o _ _ => by simp -implicitDefEqProofs [m__law_thin_4]
      have c2 : ∀ x, mLc (iSeqM (mSl fSl (mV 0) (bAt (m2 fAdd (mV 2) (mC (.int 1)))) bNo)) (tName 6) m__law_thin_1 m__law_thin_2 [6] [.cl (encC cs), .ow (.list (acc.map encI)), .cl (.int (k : Nat)), .cl (encI c), x, s5, .un] = .ok (.fr (.list (((cs.drop (k + 1)).filter fun o => subB o c && !decide (o = c)).map encI))) [.cl (encC cs), .ow (.list (acc.map encI)), .cl (.int (k : Nat)), .cl (encI c), x, s5, .un] := fun x =>
        mLc_encF encI (fun o => subB o c && !decide (o = c)) _ (by
          simp -implicitDefEqProofs [cf]) rfl (by rw [List.length_drop]; exact Nat.le_trans (show _ ≤ 80 by omega) (by decide)) (fun o ho => by
          have := has_all c o (sz o (List.mem_of_mem_drop ho))
          have en := fNe_I o c
          cases hs : subB o c
          · rw [hs] at this
            simp -implicitDefEqProofs [m__law_thin_1, this, truD_bool]
          · rw [hs] at this
            simp -implicitDefEqProofs [m__law_thin_1, this, en, truD_bool]) fun o _ _ => by simp -implicitDefEqProofs [m__law_thin_2]
      have kd := keep_drop hck
      have zz : acc.length + 1 ≤ sizeLine := Nat.le_trans (show _ ≤ 81 by omega) (by decide)
      have ke : decide (((((cs.take k).filter fun o => subB o c).length : Int) + (((cs.drop (k + 1)).filter fun o => subB o c && !decide (o = c)).length : Int)) = 0) = keepT cs k c := no_both _ _ _ _
      refine ⟨[.cl (encC cs), .ow (.list (acc.map encI)), .cl (.int (k : Nat)), .cl (encI c), s4, s5, .un], [.cl (encC cs), .ow (.list ((acc ++ (if dropB cs k c then [] else [c])).map encI)), .cl (.int (k : Nat)), .cl (encI c), .ow (.list (((cs.take k).filter fun o => subB o c).map encI)), .ow (.list (((cs.drop (k + 1)).filter fun o => subB o c && !decide (o = c)).map encI)), .un], by simp [hs2, hs3], .inl ?_, .cl (.int (k : Nat)), .cl (encI c), .ow (.list (((cs.take k).filter fun o => subB o c).map encI)), .ow (.list (((cs.drop (k + 1)).filter fun o => subB o c && !decide (o = c)).map encI)), by rw [fe], rfl, rfl, rfl, rfl⟩
      rw [kd] at ke
      clear fe kd
      cases hb : dropB cs k c <;> rw [hb] at ke
      · simp -implicitDefEqProofs [m__law_thin_5, c1, c2, hs4, hs5, ke, one_size, fRep_1, fRep_0, zz]
      · have z0 : acc.length ≤ sizeLine := by omega
        simp -implicitDefEqProofs [m__law_thin_5, c1, c2, hs4, hs5, ke, one_size, fRep_1, fRep_0, z0]
  rw [Nat.zero_add, enumD_len, List.length_map, List.take_of_length_le (by rw [List.length_zipIdx]; exact Nat.le_refl _)] at eρ
  subst eρ
  have et : ((cs.zipIdx.filter fun q => !dropB cs q.2 q.1).map (·.1)) = thinL cs := rfl
  rw [et] at e
  simp -implicitDefEqProofs [g__law_thin, runD, m__law_thin, e]
end Lb
set_option maxHeartbeats 2000000
namespace Lb
open PySem PySem.Spec L2 Vx
theorem subB_iff {y x : List Int} : subB y x = true ↔ ∀ a ∈ y, a ∈ x := by
  rw [subB, List.all_eq_true]; simp only [decide_eq_true_eq]
theorem up_ext : ∀ {a b : List Int}, a.Pairwise (fun x y => absI x < absI y) → b.Pairwise (fun x y => absI x < absI y) → (∀ x ∈ a, x ∈ b) → (∀ x ∈ b, x ∈ a) → a = b
  | [], [], _, _, _, _ => rfl
  | [], y :: b, _, _, _, h => nomatch h y List.mem_cons_self
  | x :: a, [], _, _, h, _ => nomatch h x List.mem_cons_self
  | x :: a, y :: b, ha, hb, h1, h2 => by
    have ha := List.pairwise_cons.mp ha
    have hb := List.pairwise_cons.mp hb
    have e : x = y := by
      rcases List.mem_cons.mp (h1 x List.mem_cons_self) with e | m1
      · exact e
      rcases List.mem_cons.mp (h2 y List.mem_cons_self) with e | m2
      · exact e.symm
      have q1 := hb.1 x m1
      have q2 := ha.1 y m2
      omega
    subst e
    congr 1
    refine up_ext ha.2 hb.2 (fun z hz => ?_) fun z hz => ?_
    · rcases List.mem_cons.mp (h1 z (List.mem_cons_of_mem _ hz)) with e | m
      · subst e; have := ha.1 z hz; omega
      · exact m
    · rcases List.mem_cons.mp (h2 z (List.mem_cons_of_mem _ hz)) with e | m
      · subst e; have := hb.1 z hz; omega
      · exact m
theorem thin_sub (cs : List (List Int)) : (thinL cs).Sublist cs := by
  have : (thinL cs).Sublist (cs.zipIdx.map Prod.fst) := (List.filter_sublist).map _
  simpa using this
theorem CsOk.sub {cs ds : List (List Int)} (h : CsOk cs) (s : ds.Sublist cs) : CsOk ds := ⟨Nat.le_trans s.length_le h.many, fun c hc => h.ok c (s.subset hc)⟩
theorem CsOk.thin {cs : List (List Int)} (h : CsOk cs) : CsOk (thinL cs) := h.sub (thin_sub cs)
theorem countP_lt {α : Type} {p q : α → Bool} : ∀ {l : List α}, (∀ x ∈ l, p x = true → q x = true) → (∃ x ∈ l, p x = false ∧ q x = true) → l.countP p < l.countP q
  | [], _, h => nomatch h
  | a :: l, h, ⟨x, hx, h1, h2⟩ => by
    have m : l.countP p ≤ l.countP q := List.countP_mono_left fun y hy => h y (List.mem_cons_of_mem _ hy)
    rcases List.mem_cons.mp hx with e | hx
    · subst e
      rw [List.countP_cons_of_neg (by rw [h1]; decide), List.countP_cons_of_pos h2]; omega
    · have := countP_lt (fun y hy => h y (List.mem_cons_of_mem _ hy)) ⟨x, hx, h1, h2⟩
      by_cases c : p a = true
      · rw [List.countP_cons_of_pos c, List.countP_cons_of_pos (h a List.mem_cons_self c)]; omega
      · rw [List.countP_cons_of_neg c, List.countP_cons]; omega
theorem thin_below {cs : List (List Int)} (h : ∀ c ∈ cs, c.Pairwise fun x y => absI x < absI y) (M : Nat) : ∀ (c : List Int) (k : Nat), (c, k) ∈ cs.zipIdx → cs.countP (fun o => subB o c) * (cs.length + 1) + k ≤ M → ∃ o ∈ thinL cs, subB o c = true := by
  induction M using Nat.strongRecOn with
  | ind M ih =>
    intro c k hc hM
    have hm : c ∈ cs := List.mem_of_getElem? (List.mem_zipIdx_iff_getElem?.mp hc)
    cases hd : dropB cs k c with
    | false =>
      refine ⟨c, List.mem_map.mpr ⟨(c, k), List.mem_filter.mpr ⟨hc, ?_⟩, rfl⟩, subB_refl c⟩
      show (!dropB cs k c) = true
      rw [hd]; rfl
    | true =>
      obtain ⟨⟨o, j⟩, hoj, hp⟩ := List.any_eq_true.mp hd
      rw [Bool.and_eq_true] at hp
      obtain ⟨hs, hp⟩ := hp
      have hom : o ∈ cs := List.mem_of_getElem? (List.mem_zipIdx_iff_getElem?.mp hoj)
      have hjl : j < cs.length := (List.getElem?_eq_some_iff.mp (List.mem_zipIdx_iff_getElem?.mp hoj)).1
      have lt : cs.countP (fun x => subB x o) * (cs.length + 1) + j < cs.countP (fun x => subB x c) * (cs.length + 1) + k := by
        by_cases e : o = c
        · subst e
          have : j < k := by simpa using hp
          omega
        · have l := countP_lt (p := fun x => subB x o) (q := fun x => subB x c) (l := cs) (fun x _ hx => subB_iff.mpr fun a ha => subB_iff.mp hs a (subB_iff.mp hx a ha)) ⟨c, hm, by
            cases q : subB c o with
            | false => rfl
            | true => exact absurd (up_ext (h o hom) (h c hm) (subB_iff.mp hs) (subB_iff.mp q)) e, subB_refl c⟩
          have := Nat.mul_le_mul_right (cs.length + 1) (Nat.succ_le_of_lt l)
          rw [Nat.succ_mul] at this
          omega
      obtain ⟨x, hx, hxo⟩ := ih _ (Nat.lt_of_lt_of_le lt hM) o j hoj (Nat.le_refl _)
      exact ⟨x, hx, subB_iff.mpr fun a ha => subB_iff.mp hs a (subB_iff.mp hxo a ha)⟩
theorem thin_ex {cs : List (List Int)} (h : ∀ c ∈ cs, c.Pairwise fun x y => absI x < absI y) {c : List Int} (hc : c ∈ cs) : ∃ o ∈ thinL cs, subB o c = true := by
  obtain ⟨k, hk⟩ := List.getElem?_of_mem hc
  exact thin_below h _ c k (List.mem_zipIdx_iff_getElem?.mpr hk) (Nat.le_refl _)
theorem holds_up {o c w : List Int} (h : subB o c = true) (h2 : holdsB o w = true) : holdsB c w = true := by
  obtain ⟨x, hx, hl⟩ := List.any_eq_true.mp h2
  exact List.any_eq_true.mpr ⟨x, subB_iff.mp h x hx, hl⟩
theorem thin_breaks {cs : List (List Int)} (h : ∀ c ∈ cs, c.Pairwise fun x y => absI x < absI y) (w : List Int) : breaksB (thinL cs) w = breaksB cs w := by
  rw [Bool.eq_iff_iff]
  constructor
  · intro q
    obtain ⟨c, hc, hb⟩ := List.any_eq_true.mp q
    exact List.any_eq_true.mpr ⟨c, (thin_sub cs).subset hc, hb⟩
  · intro q
    obtain ⟨c, hc, hb⟩ := List.any_eq_true.mp q
    obtain ⟨o, ho, hs⟩ := thin_ex h hc
    refine List.any_eq_true.mpr ⟨o, ho, ?_⟩
    cases hh : holdsB o w with
    | false => rfl
    | true => rw [holds_up hs hh] at hb; cases hb
theorem thin_thin (cs : List (List Int)) : thinL (thinL cs) = thinL cs := by
  have e : ∀ ds : List (List Int), (∀ q ∈ ds.zipIdx, dropB ds q.2 q.1 = false) → thinL ds = ds := fun ds h => by
    unfold thinL
    rw [List.filter_eq_self.mpr fun q hq => by rw [h q hq]; rfl]
    simp
  refine e _ fun q hq => ?_
  obtain ⟨c, k'⟩ := q
  have pw : (cs.zipIdx.filter fun q => !dropB cs q.2 q.1).Pairwise fun a b => a.2 < b.2 := by
    refine List.Pairwise.sublist List.filter_sublist ?_
    have := List.pairwise_lt_range' (s := 0) (n := cs.length) (step := 1) (by decide)
    rw [← List.zipIdx_map_snd] at this
    exact List.pairwise_map.mp this
  have hk := List.mem_zipIdx_iff_getElem?.mp hq
  unfold thinL at hk
  rw [List.getElem?_map] at hk
  obtain ⟨⟨c2, k⟩, hk, e2⟩ := Option.map_eq_some_iff.mp hk
  have e2 : c2 = c := e2
  subst e2
  cases hd : dropB (thinL cs) k' c2 with
  | false => rfl
  | true =>
    obtain ⟨⟨o, j'⟩, hoj, hp⟩ := List.any_eq_true.mp hd
    rw [Bool.and_eq_true] at hp
    obtain ⟨hs, hp⟩ := hp
    have hj := List.mem_zipIdx_iff_getElem?.mp hoj
    unfold thinL at hj
    rw [List.getElem?_map] at hj
    obtain ⟨⟨o2, j⟩, hj, e3⟩ := Option.map_eq_some_iff.mp hj
    have e3 : o2 = o := e3
    subst e3
    have mk := List.mem_filter.mp (List.mem_of_getElem? hk)
    have mj := List.mem_filter.mp (List.mem_of_getElem? hj)
    have nd : dropB cs k c2 = false := by
      have := mk.2
      cases q : dropB cs k c2 with
      | false => rfl
      | true => simp only [q] at this; cases this
    have yd : dropB cs k c2 = true := by
      refine List.any_eq_true.mpr ⟨(o2, j), mj.1, ?_⟩
      rw [Bool.and_eq_true]
      refine ⟨hs, ?_⟩
      by_cases eo : o2 = c2
      · have lt : j' < k' := by simpa [eo] using hp
        have := List.pairwise_iff_getElem.mp pw j' k' (List.getElem?_eq_some_iff.mp hj).1 (List.getElem?_eq_some_iff.mp hk).1 lt
        rw [(List.getElem?_eq_some_iff.mp hj).2, (List.getElem?_eq_some_iff.mp hk).2] at this
        simp [this]
      · simp [eo]
    rw [nd] at yd; cases yd
end Lb
set_option maxHeartbeats 2000000
namespace Lb
open PySem PySem.Spec L2 Vx
def cutC (lot c : List Int) : List Int := c.filter fun x => !decide (-x ∈ lot)
def leftL (cs : List (List Int)) (lot : List Int) : List (List Int) := (cs.filter fun c => !(lot.any fun x => decide (x ∈ c))).map (cutC lot)
theorem left_by {cs : List (List Int)} {lot : List Int} (hm : cs.length ≤ 80) (hz : ∀ c ∈ cs, c.length ≤ sizeLine) (hl : lot.length ≤ sizeLine) : g_left_by [encC cs, encI lot] = .ok false (encC (leftL cs lot)) [] := by
  let P : Nat → Ev → Prop := fun i ρ => ∃ s3, ρ = [.cl (encC cs), .cl (encI lot), .ow (.list ((leftL (cs.take i) lot).map encI)), s3, .un] ∧ free (some s3) = true
  obtain ⟨ρ', e, s3, eρ, _⟩ := forI_inv (t := tName 3) (b := m_left_by_4) (P := P) (cs.map encI) 0 [.cl (encC cs), .cl (encI lot), .ow (.list []), .un, .un] ⟨.un, by simp [leftL], rfl⟩ fun i d ρ hd hp => by
    obtain ⟨s3, eρ, hs3⟩ := hp
    rw [Nat.zero_add] at eρ ⊢
    subst eρ
    rw [List.getElem?_map] at hd
    cases hci : cs[i]? with
    | none => rw [hci] at hd; cases hd
    | some c =>
      rw [hci] at hd
      have hd : encI c = d := Option.some.inj hd
      subst hd
      have hcm : c ∈ cs := List.mem_of_getElem? hci
      have ht : cs.take (i + 1) = cs.take i ++ [c] := by rw [List.take_add_one, hci]; rfl
      have fe : leftL (cs.take (i + 1)) lot = leftL (cs.take i) lot ++ (if (lot.any fun x => decide (x ∈ c)) = true then [] else [cutC lot c]) := by
        unfold leftL
        rw [ht, List.filter_append, List.map_append]
        congr 1
        cases hb : (lot.any fun x => decide (x ∈ c)) <;> simp [hb]
      have hacc : (leftL (cs.take i) lot).length < sizeLine := by
        unfold leftL
        rw [List.length_map]
        refine Nat.lt_of_le_of_lt (List.length_filter_le _ _) ?_
        rw [List.length_take]
        exact Nat.lt_of_le_of_lt (show _ ≤ 80 by omega) (by decide)
      generalize leftL (cs.take i) lot = acc at hacc fe ⊢
      have c1 : mLc (iSeqM (mV 1)) (tName 4) tYesM m_left_by_1 [4] [.cl (encC cs), .cl (encI lot), .ow (.list (acc.map encI)), .cl (encI c), .un] = .ok (.fr (.list (lot.map fun x => .bool (decide (x ∈ c))))) [.cl (encC cs), .cl (encI lot), .ow (.list (acc.map encI)), .cl (encI c), .un] :=
        mLc_encM .int _ (by simp -implicitDefEqProofs) rfl hl fun x _ => by
          have := fIn_I x c
          simp -implicitDefEqProofs [m_left_by_1, this]
      have c2 : mLc (iSeqM (mV 3)) (tName 4) m_left_by_2 m_left_by_3 [4] [.cl (encC cs), .cl (encI lot), .ow (.list (acc.map encI)), .cl (encI c), .un] = .ok (.fr (.list ((cutC lot c).map .int))) [.cl (encC cs), .cl (encI lot), .ow (.list (acc.map encI)), .cl (encI c), .un] :=
        mLc_encF .int (fun x => !decide (-x ∈ lot)) _ (by simp -implicitDefEqProofs) rfl (hz c hcm) (fun x _ => by
          have := fNotIn_I (-x) lot
          simp -implicitDefEqProofs [m_left_by_2, this]) fun x _ _ => by simp -implicitDefEqProofs [m_left_by_3]
      have a1 := fAny_map (fun x => decide (x ∈ c)) lot
      refine ⟨[.cl (encC cs), .cl (encI lot), .ow (.list (acc.map encI)), .cl (encI c), .un], [.cl (encC cs), .cl (encI lot), .ow (.list ((acc ++ (if (lot.any fun x => decide (x ∈ c)) = true then [] else [cutC lot c])).map encI)), .cl (encI c), .un], by simp [hs3], .inl ?_, .cl (encI c), by rw [fe], rfl⟩
      cases hb : (lot.any fun x => decide (x ∈ c))
      · rw [hb] at a1
        simp -implicitDefEqProofs [m_left_by_4, c1, c2, a1, hacc]
      · rw [hb] at a1
        simp -implicitDefEqProofs [m_left_by_4, c1, a1]
  rw [Nat.zero_add, List.length_map, List.take_length] at eρ
  subst eρ
  simp -implicitDefEqProofs [g_left_by, runD, m_left_by, e]
theorem given_lot {cs : List (List Int)} (h : CsOk cs) {lot : List Int} (hl : ClOk lot) : g_given_lot [encC cs, encI lot] = .ok false (encC (leftL cs lot)) [] := by
  have e1 := check_ok h.many h.ok
  have e2 := check_lot_ok hl
  have e3 := left_by h.many (fun c hc => (h.ok c hc).size) hl.size
  simp -implicitDefEqProofs [g_given_lot, runD, m_given_lot, e1, e2, e3]
theorem any_sym (a b : List Int) : (a.any fun x => decide (x ∈ b)) = b.any fun x => decide (x ∈ a) := by
  rw [Bool.eq_iff_iff, List.any_eq_true, List.any_eq_true]
  simp only [decide_eq_true_eq]
  exact ⟨fun ⟨x, h1, h2⟩ => ⟨x, h2, h1⟩, fun ⟨x, h1, h2⟩ => ⟨x, h2, h1⟩⟩
theorem law_left {cs : List (List Int)} (h : CsOk cs) {lot : List Int} : g__law_left [encC cs, encI lot] = .ok false (encC (leftL cs lot)) [] := by
  have sz : ∀ c ∈ cs, c.length ≤ sizeLine := fun c hc => (h.ok c hc).size
  have h80 : 80 ≤ sizeLine := by decide
  have c1 : mLc (iSeqM (mV 0)) (tName 3) m__law_left_5 m__law_left_6 [3] [.cl (encC cs), .cl (encI lot), .un, .un, .un] = .ok (.fr (.list ((cs.filter fun c => !(lot.any fun x => decide (x ∈ c))).map encI))) [.cl (encC cs), .cl (encI lot), .un, .un, .un] :=
    mLc_encF encI (fun c => !(lot.any fun x => decide (x ∈ c))) _ (by simp -implicitDefEqProofs) rfl (Nat.le_trans h.many h80) (fun c hc => by
      have q : mLc (iSeqM (mV 3)) (tName 4) tYesM m__law_left_4 [4] [.cl (encC cs), .cl (encI lot), .un, .cl (encI c), .un] = .ok (.fr (.list (c.map fun x => .bool (decide (x ∈ lot))))) [.cl (encC cs), .cl (encI lot), .un, .cl (encI c), .un] :=
        mLc_encM .int _ (by simp -implicitDefEqProofs) rfl (sz c hc) fun x _ => by
          have := fIn_I x lot
          simp -implicitDefEqProofs [m__law_left_4, this]
      have a1 := fAny_map (fun x => decide (x ∈ lot)) c
      rw [any_sym c lot] at a1
      simp -implicitDefEqProofs [m__law_left_5, q, a1]) fun c _ _ => by simp -implicitDefEqProofs [m__law_left_6]
  have s2 : (cs.filter fun c => !(lot.any fun x => decide (x ∈ c))).length ≤ sizeLine := Nat.le_trans (List.length_filter_le _ _) (Nat.le_trans h.many h80)
  have sm : ∀ c ∈ (cs.filter fun c => !(lot.any fun x => decide (x ∈ c))), c.length ≤ sizeLine := fun c hc => sz c (List.mem_filter.mp hc).1
  have hf : (cs.filter fun c => !(lot.any fun x => decide (x ∈ c))).map (cutC lot) = leftL cs lot := rfl
  generalize (cs.filter fun c => !(lot.any fun x => decide (x ∈ c))) = fs at c1 s2 sm hf
  have c2 : mLc (iSeqM (mV 2)) (tName 3) tYesM m__law_left_3 [3] [.cl (encC cs), .cl (encI lot), .ow (.list (fs.map encI)), .un, .un] = .ok (.fr (.list (fs.map fun c => encI (cutC lot c)))) [.cl (encC cs), .cl (encI lot), .cl (.list (fs.map encI)), .un, .un] :=
    mLc_encM encI _ (by simp -implicitDefEqProofs) rfl s2 fun c hc => by
      have q : mLc (iSeqM (mV 3)) (tName 4) m__law_left_1 m__law_left_2 [4] [.cl (encC cs), .cl (encI lot), .cl (.list (fs.map encI)), .cl (encI c), .un] = .ok (.fr (.list ((cutC lot c).map .int))) [.cl (encC cs), .cl (encI lot), .cl (.list (fs.map encI)), .cl (encI c), .un] :=
        mLc_encF .int (fun x => !decide (-x ∈ lot)) _ (by simp -implicitDefEqProofs) rfl (sm c hc) (fun x _ => by
          have := fNotIn_I (-x) lot
          simp -implicitDefEqProofs [m__law_left_1, this]) fun x _ _ => by simp -implicitDefEqProofs [m__law_left_2]
      simp -implicitDefEqProofs [m__law_left_3, q]
  have hm : (fs.map fun c => encI (cutC lot c)) = (leftL cs lot).map encI := by rw [← hf, List.map_map]; rfl
  rw [hm] at c2
  simp -implicitDefEqProofs [g__law_left, runD, m__law_left, c1, c2]
end Lb
set_option maxHeartbeats 2000000
namespace Lb
open PySem PySem.Spec L2 Vx
theorem ClOk.sub {c d : List Int} (h : ClOk c) (s : d.Sublist c) : ClOk d := ⟨fun x hx => h.atoms x (s.subset hx), h.up.sublist s⟩
theorem CsOk.left {cs : List (List Int)} (h : CsOk cs) (lot : List Int) : CsOk (leftL cs lot) := by
  refine ⟨?_, fun c hc => ?_⟩
  · unfold leftL
    rw [List.length_map]
    exact Nat.le_trans (List.length_filter_le _ _) h.many
  · obtain ⟨d, hd, rfl⟩ := List.mem_map.mp hc
    exact (h.ok d (List.mem_filter.mp hd).1).sub List.filter_sublist
theorem absI_neg (x : Int) : absI (-x) = absI x := by unfold absI; split <;> split <;> omega
theorem litB_neg {w : List Int} {x : Int} (h0 : x ≠ 0) (h : litB w (-x) = true) : litB w x = false := by
  unfold litB at *
  rw [absI_neg] at h
  rw [decide_eq_true_eq] at h
  rw [h, decide_eq_false_iff_not]
  by_cases p : 0 < x
  · have : ¬ 0 < -x := by omega
    rw [if_pos p, if_neg this]; decide
  · have : 0 < -x := by omega
    rw [if_neg p, if_pos this]; decide
theorem holds_cut {w lot c : List Int} (hl : lot.all (litB w) = true) (h0 : ∀ x ∈ c, x ≠ 0) : holdsB (cutC lot c) w = holdsB c w := by
  rw [Bool.eq_iff_iff]
  constructor
  · intro h
    obtain ⟨x, hx, hp⟩ := List.any_eq_true.mp h
    exact List.any_eq_true.mpr ⟨x, (List.mem_filter.mp hx).1, hp⟩
  · intro h
    obtain ⟨x, hx, hp⟩ := List.any_eq_true.mp h
    refine List.any_eq_true.mpr ⟨x, List.mem_filter.mpr ⟨hx, ?_⟩, hp⟩
    by_cases m : -x ∈ lot
    · have := litB_neg (h0 x hx) (List.all_eq_true.mp hl _ m)
      rw [hp] at this; cases this
    · simp [m]
theorem left_breaks {cs : List (List Int)} {w lot : List Int} (hl : lot.all (litB w) = true) (h0 : ∀ c ∈ cs, ∀ x ∈ c, x ≠ 0) : breaksB (leftL cs lot) w = breaksB cs w := by
  unfold breaksB leftL
  rw [Bool.eq_iff_iff]
  constructor
  · intro h
    obtain ⟨d, hd, hb⟩ := List.any_eq_true.mp h
    obtain ⟨c, hc, rfl⟩ := List.mem_map.mp hd
    have hm := (List.mem_filter.mp hc).1
    rw [holds_cut hl (h0 c hm)] at hb
    exact List.any_eq_true.mpr ⟨c, hm, hb⟩
  · intro h
    obtain ⟨c, hc, hb⟩ := List.any_eq_true.mp h
    refine List.any_eq_true.mpr ⟨cutC lot c, List.mem_map.mpr ⟨c, List.mem_filter.mpr ⟨hc, ?_⟩, rfl⟩, by rw [holds_cut hl (h0 c hc)]; exact hb⟩
    cases q : (lot.any fun x => decide (x ∈ c)) with
    | false => rfl
    | true =>
      obtain ⟨x, hx, hxc⟩ := List.any_eq_true.mp q
      have : holdsB c w = true := List.any_eq_true.mpr ⟨x, of_decide_eq_true hxc, List.all_eq_true.mp hl x hx⟩
      rw [this] at hb; cases hb
theorem left_two {cs : List (List Int)} {lot more two : List Int} (hm : ∀ x, x ∈ two ↔ x ∈ lot ∨ x ∈ more) (hd : ∀ x ∈ more, -x ∉ lot) : leftL cs two = leftL (leftL cs lot) more := by
  unfold leftL
  rw [List.filter_map, List.map_map, List.filter_filter]
  have e1 : (cs.filter fun c => !(two.any fun x => decide (x ∈ c))) = cs.filter fun c => ((fun c => !(more.any fun x => decide (x ∈ c))) ∘ cutC lot) c && !(lot.any fun x => decide (x ∈ c)) := by
    refine List.filter_congr fun c _ => ?_
    show (!(two.any fun x => decide (x ∈ c))) = (!(more.any fun x => decide (x ∈ cutC lot c)) && !(lot.any fun x => decide (x ∈ c)))
    rw [← Bool.not_or]
    congr 1
    rw [Bool.eq_iff_iff, Bool.or_eq_true, List.any_eq_true, List.any_eq_true, List.any_eq_true]
    simp only [decide_eq_true_eq]
    constructor
    · rintro ⟨x, hx, hc⟩
      rcases (hm x).mp hx with q | q
      · exact .inr ⟨x, q, hc⟩
      · exact .inl ⟨x, q, List.mem_filter.mpr ⟨hc, by simp [hd x q]⟩⟩
    · rintro (⟨x, hx, hc⟩ | ⟨x, hx, hc⟩)
      · exact ⟨x, (hm x).mpr (.inr hx), (List.mem_filter.mp hc).1⟩
      · exact ⟨x, (hm x).mpr (.inl hx), hc⟩
  rw [e1]
  congr 1
  funext c
  show c.filter _ = (c.filter _).filter _
  rw [List.filter_filter]
  refine List.filter_congr fun x _ => ?_
  rw [Bool.eq_iff_iff]
  simp only [Bool.not_eq_true', decide_eq_false_iff_not, Bool.and_eq_true, hm (-x)]
  constructor
  · intro h; exact ⟨fun q => h (.inr q), fun q => h (.inl q)⟩
  · rintro ⟨h1, h2⟩ (q | q)
    · exact h2 q
    · exact h1 q
end Lb
set_option maxHeartbeats 2000000
namespace Lb
open PySem PySem.Spec L2 Vx
def sAbs (l : List Int) : List Int := l.mergeSort fun a b => decide (absI a ≤ absI b)
def sAbsP (l : List Int) : List Int := l.mergeSort fun p q => decide (absI p < absI q ∨ (absI p = absI q ∧ p ≤ q))
theorem mapO_ints {kf : D → Option D} {k : Int → D} (h : ∀ i, kf (.int i) = some (k i)) : ∀ l : List Int, mapO kf (l.map .int) = some (l.map k)
  | [] => rfl
  | a :: l => by
    show (kf (.int a)).bind _ = _
    rw [h a, Option.bind_some, mapO_ints h l]; rfl
theorem okKs_int (f : Int → Int) (l : List Int) : okKs (l.map fun i => .int (f i)) = true := by
  unfold okKs
  simp only [Bool.and_eq_true, Bool.or_eq_true, List.all_eq_true, List.mem_map, decide_eq_true_eq]
  refine ⟨⟨?_, .inr ?_⟩, ?_⟩
  · rintro _ ⟨a, _, rfl⟩ _ ⟨b, _, rfl⟩; rfl
  · rintro _ ⟨a, _, rfl⟩; rfl
  · rintro _ ⟨a, _, rfl⟩; simp [PyData.depth]
theorem okKs_pair (f g : Int → Int) (l : List Int) : okKs (l.map fun i => .tuple [.int (f i), .int (g i)]) = true := by
  unfold okKs
  simp only [Bool.and_eq_true, Bool.or_eq_true, List.all_eq_true, List.mem_map, decide_eq_true_eq]
  refine ⟨⟨?_, .inl ?_⟩, ?_⟩
  · rintro _ ⟨a, _, rfl⟩ _ ⟨b, _, rfl⟩; rfl
  · rintro _ ⟨a, _, rfl⟩; rfl
  · rintro _ ⟨a, _, rfl⟩; simp [PyData.depth, PyData.depthAll]
theorem srt_abs {l : List Int} (hz : l.length ≤ sizeLine) {d : D} (hd : itK d = some (l.map .int)) : fSrtK kAbs d = some (.fr (.list ((sAbs l).map .int))) := by
  unfold fSrtK
  rw [hd, Option.bind_some, mapO_ints (k := fun i => .int (absI i)) (fun i => rfl) l, Option.bind_some, okKs_int absI l, if_pos (by simpa using hz)]
  have : (sAbs l).map PyData.int = (l.map .int).mergeSort (PySem.W.dataLe false (kG kAbs)) := by
    unfold sAbs
    refine List.map_mergeSort fun a _ b _ => ?_
    have := congrFun (congrFun (PySem.W.dataLe_int absI) a) b
    rw [← this]; rfl
  rw [this]
theorem srt_absP {l : List Int} (hz : l.length ≤ sizeLine) {d : D} (hd : itK d = some (l.map .int)) : fSrtK kAbsP d = some (.fr (.list ((sAbsP l).map .int))) := by
  unfold fSrtK
  rw [hd, Option.bind_some, mapO_ints (k := fun i => .tuple [.int (absI i), .int i]) (fun i => rfl) l, Option.bind_some, (show okKs (l.map fun i => .tuple [.int (absI i), .int i]) = true from okKs_pair absI id l), if_pos (by simpa using hz)]
  have : (sAbsP l).map PyData.int = (l.map .int).mergeSort (PySem.W.dataLe false (kG kAbsP)) := by
    unfold sAbsP
    refine List.map_mergeSort fun a _ b _ => ?_
    have := congrFun (congrFun (PySem.W.dataLe_ii absI id) a) b
    have this := this.symm
    simp only [id] at this
    exact this
  rw [this]
/-- where no two have one abs, both orders are one -/
theorem sAbs_up {l : List Int} (h : l.Pairwise fun a b => absI a ≠ absI b) : (sAbs l).Pairwise (fun a b => absI a < absI b) ∧ (sAbs l).Perm l := by
  have p : (sAbs l).Perm l := List.mergeSort_perm _ _
  refine ⟨?_, p⟩
  have s : (sAbs l).Pairwise fun a b => decide (absI a ≤ absI b) = true := List.pairwise_mergeSort (fun a b c h1 h2 => by simp only [decide_eq_true_eq] at *; omega) (fun a b => by simp only [Bool.or_eq_true, decide_eq_true_eq]; omega) l
  have d : (sAbs l).Pairwise fun a b => absI a ≠ absI b := (p.pairwise_iff (fun h => h.symm)).mpr h
  exact (s.and d).imp fun ⟨h1, h2⟩ => by have := of_decide_eq_true h1; omega
theorem sAbsP_up {l : List Int} (h : l.Pairwise fun a b => absI a ≠ absI b) : (sAbsP l).Pairwise (fun a b => absI a < absI b) ∧ (sAbsP l).Perm l := by
  have p : (sAbsP l).Perm l := List.mergeSort_perm _ _
  refine ⟨?_, p⟩
  have s : (sAbsP l).Pairwise fun a b => decide (absI a < absI b ∨ (absI a = absI b ∧ a ≤ b)) = true := List.pairwise_mergeSort (fun a b c h1 h2 => by simp only [decide_eq_true_eq] at *; omega) (fun a b => by simp only [Bool.or_eq_true, decide_eq_true_eq]; omega) l
  have d : (sAbsP l).Pairwise fun a b => absI a ≠ absI b := (p.pairwise_iff (fun h => h.symm)).mpr h
  exact (s.and d).imp fun ⟨h1, h2⟩ => by have := of_decide_eq_true h1; omega
theorem sAbs_eq {l : List Int} (h : l.Pairwise fun a b => absI a ≠ absI b) : sAbsP l = sAbs l := by
  obtain ⟨u1, p1⟩ := sAbsP_up h
  obtain ⟨u2, p2⟩ := sAbs_up h
  exact up_ext u1 u2 (fun x hx => p2.mem_iff.mpr (p1.mem_iff.mp hx)) fun x hx => p1.mem_iff.mpr (p2.mem_iff.mp hx)
end Lb
set_option maxHeartbeats 2000000
namespace Lb
open PySem PySem.Spec L2 Vx
theorem putD_new {acc : List Int} {i : Int} (h : i ∉ acc) (y : D) : putD (acc.map fun i => (PyData.int i, y)) (.inl i) y = (acc ++ [i]).map fun i => (PyData.int i, y) := by
  unfold putD
  rw [if_neg, List.map_append]
  · rfl
  · intro q
    obtain ⟨p, hp, he⟩ := List.any_eq_true.mp q
    obtain ⟨j, hj, rfl⟩ := List.mem_map.mp hp
    have : j = i := of_decide_eq_true he
    exact h (this ▸ hj)
theorem dcI_int {v : Nat} {ke e : M Op} {ρ1 : Ev} (k : Int → Int) (y : D) (hw : wipable ρ1[v]? = true) : ∀ (l acc : List Int) (ρ : Ev), unS ρ [v] = unS ρ1 [v] → acc.length + l.length ≤ sizeLine → (acc ++ l.map k).Nodup →
    (∀ a ∈ l, mK ke (ρ1.set v (.cl (.int a))) = .ok (.int (k a)) (ρ1.set v (.cl (.int a))) ∧ mK e (ρ1.set v (.cl (.int a))) = .ok y (ρ1.set v (.cl (.int a)))) →
    ∃ ρ', dcI (tName v) tYesM ke e [v] (l.map .int) (acc.map fun i => (PyData.int i, y)) ρ = .ok ((acc ++ l.map k).map fun i => (PyData.int i, y)) ρ' ∧ unS ρ' [v] = unS ρ1 [v]
  | [], acc, ρ, hu, _, _, _ => ⟨ρ, by rw [List.map_nil]; unfold dcI; simp, hu⟩
  | a :: l, acc, ρ, hu, hz, hn, h => by
    obtain ⟨h1, h2⟩ := h a List.mem_cons_self
    rw [List.map_cons]
    unfold dcI
    rw [hu, (set1 hw).1]
    dsimp only
    rw [ev_Yes]
    dsimp only
    rw [h1]
    dsimp only
    rw [h2]
    dsimp only
    have kd : keyD (.int (k a)) = some (.inl (k a)) := rfl
    rw [kd]
    dsimp only
    have hz : acc.length + (l.length + 1) ≤ sizeLine := hz
    rw [List.length_map, if_pos (by omega)]
    have nk : k a ∉ acc := fun q => by
      have := (List.nodup_append.mp hn).2.2 _ q (k a) List.mem_cons_self
      exact this rfl
    rw [putD_new nk]
    obtain ⟨ρ', q1, q2⟩ := dcI_int (v := v) (ke := ke) (e := e) k y hw l (acc ++ [k a]) (ρ1.set v (.cl (.int a))) (set1 hw).2 (by rw [List.length_append]; exact (by simp; omega)) (by rw [List.append_assoc]; exact hn) fun x hx => h x (List.mem_cons_of_mem _ hx)
    refine ⟨ρ', ?_, q2⟩
    rw [q1, List.append_assoc]; rfl
theorem mDc_int {it : M (List D)} {v : Nat} {ke e : M Op} {ρ ρ1 : Ev} {l : List Int} (k : Int → Int) (y : D) (hi : it ρ = .ok (l.map .int) ρ1) (hw : wipable ρ1[v]? = true) (hz : l.length ≤ sizeLine) (hn : (l.map k).Nodup)
    (h : ∀ a ∈ l, mK ke (ρ1.set v (.cl (.int a))) = .ok (.int (k a)) (ρ1.set v (.cl (.int a))) ∧ mK e (ρ1.set v (.cl (.int a))) = .ok y (ρ1.set v (.cl (.int a)))) :
    mDc it (tName v) tYesM ke e [v] ρ = .ok (.fr (.dict ((l.map k).map fun i => (PyData.int i, y)))) ρ1 := by
  obtain ⟨ρ', q1, q2⟩ := dcI_int (v := v) (ke := ke) (e := e) k y hw l [] ρ1 rfl (by simpa using hz) (by simpa using hn) h
  unfold mDc
  rw [hi, Rs.bind_ok, if_pos (by simp [hw])]
  have q1 : dcI (tName v) tYesM ke e [v] (l.map .int) [] ρ1 = .ok ((l.map k).map fun i => (PyData.int i, y)) ρ' := q1
  rw [q1]
  dsimp only
  rw [bkS_same q2]
theorem plain_ints (l : List Int) (y : D) : plainK (l.map fun i => (PyData.int i, y)) = true := by
  unfold plainK
  rw [List.all_eq_true]
  intro p hp
  obtain ⟨i, _, rfl⟩ := List.mem_map.mp hp
  rfl
theorem itK_keys (l : List Int) (y : D) : itK (.dict (l.map fun i => (PyData.int i, y))) = some (l.map .int) := by
  show (if plainK (l.map fun i => (PyData.int i, y)) = true then some ((l.map fun i => (PyData.int i, y)).map (·.1)) else none) = some _
  rw [if_pos (plain_ints l y), List.map_map]; rfl
theorem zip_tail_up' {c : List Int} (h : c.Pairwise fun a b => absI a < absI b) : ((c.zip c.tail).any fun q => decide (absI q.1 = absI q.2)) = false := by
  rw [List.any_eq_false]
  intro q hq e
  have := List.all_eq_true.mp (zip_tail_up h) q hq
  have h1 := of_decide_eq_true this
  have h2 := of_decide_eq_true e
  omega
theorem joined {l : List Int} (hz : l.length ≤ 100) (h : l.Pairwise fun a b => absI a ≠ absI b) : g_joined [.list (l.map .int)] = .ok false (encI (sAbs l)) [] := by
  have hs : l.length ≤ sizeLine := Nat.le_trans hz (by decide)
  have hn : l.Nodup := h.imp fun q e => q (by rw [e])
  have d1 : mDc (iSeqM (mV 0)) (tName 2) tYesM m_joined_2 m_joined_3 [2] [.bo (.list (l.map .int)), .un, .un, .un] = .ok (.fr (.dict ((l.map id).map fun i => (PyData.int i, PyData.bool true)))) [.bo (.list (l.map .int)), .un, .un, .un] :=
    mDc_int id _ (by simp -implicitDefEqProofs) rfl hs (by simpa using hn) fun a _ => ⟨by simp -implicitDefEqProofs [m_joined_2], by simp -implicitDefEqProofs [m_joined_3]⟩
  rw [List.map_id] at d1
  have s1 := srt_absP hs (itK_keys l (.bool true))
  rw [sAbs_eq h] at s1
  obtain ⟨u, p⟩ := sAbs_up h
  have zl : (sAbs l).length ≤ 100 := by rw [p.length_eq]; exact hz
  generalize sAbs l = t at *
  have ct : cutD (t.map PyData.int) (some 1) none = (t.tail).map .int := by
    have := cut_from (t.map PyData.int) 1
    rw [← List.map_drop, List.drop_one] at this
    exact this
  have zz := zip_enc PyData.int PyData.int t t.tail
  have c1 : mLc (iFnK zp (kiCons (mV 1) (kiCons (mSl fSl (mV 1) (bAt (mC (.int 1))) bNo) kiNil))) (Vx.tTup (tsCons (tName 2) (tsCons (tName 3) tsNil))) tYesM m_joined_1 [2, 3] [.bo (.list (l.map .int)), .ow (.list (t.map .int)), .un, .un] = .ok (.fr (.list ((t.zip t.tail).map fun q => .bool (decide (absI q.1 = absI q.2))))) [.bo (.list (l.map .int)), .cl (.list (t.map .int)), .un, .un] :=
    mLc_enc2M .int .int _ (by rw [← zz]; simp -implicitDefEqProofs [ct]) (by decide) rfl rfl (by rw [List.length_zip]; exact Nat.le_trans (show _ ≤ 100 by omega) (by decide)) fun q _ => by simp -implicitDefEqProofs [m_joined_1]
  have a1 := fAny_map (fun q : Int × Int => decide (absI q.1 = absI q.2)) (t.zip t.tail)
  rw [zip_tail_up' u] at a1
  simp -implicitDefEqProofs [g_joined, runD, m_joined, d1, s1, c1, a1]
end Lb
set_option maxHeartbeats 2000000
namespace Lb
open PySem PySem.Spec L2 Vx
theorem law_joined {l : List Int} (hz : l.length ≤ 100) (h : l.Pairwise fun a b => absI a ≠ absI b) (h0 : ∀ x ∈ l, x ≠ 0) : g__law_joined [.list (l.map .int)] = .ok false (encI (sAbs l)) [] := by
  have hs : l.length ≤ sizeLine := Nat.le_trans hz (by decide)
  have s1 := srt_abs hs (d := .list (l.map .int)) rfl
  obtain ⟨u, p⟩ := sAbs_up h
  have zl : (sAbs l).length ≤ 100 := by rw [p.length_eq]; exact hz
  have t0 : ∀ x ∈ sAbs l, x ≠ 0 := fun x hx => h0 x (p.mem_iff.mp hx)
  generalize sAbs l = t at *
  let P : Nat → Ev → Prop := fun i ρ => ∃ s2, ρ = [.bo (.list (l.map .int)), .ow (.list ((t.take i).map .int)), s2] ∧ free (some s2) = true
  obtain ⟨ρ', e, s2, eρ, _⟩ := forI_inv (t := tName 2) (b := m__law_joined_1) (P := P) (t.map .int) 0 [.bo (.list (l.map .int)), .ow (.list []), .un] ⟨.un, by simp, rfl⟩ fun i d ρ hd hp => by
    obtain ⟨s2, eρ, hs2⟩ := hp
    rw [Nat.zero_add] at eρ ⊢
    subst eρ
    rw [List.getElem?_map] at hd
    cases hci : t[i]? with
    | none => rw [hci] at hd; cases hd
    | some x =>
      rw [hci] at hd
      have hd : PyData.int x = d := Option.some.inj hd
      subst hd
      have ht : t.take (i + 1) = t.take i ++ [x] := by rw [List.take_add_one, hci]; rfl
      have up : ∀ y ∈ t.take i, absI y < absI x := fun y hy => by
        have hsub : (t.take i ++ [x]).Sublist t := by rw [← ht]; exact List.take_sublist _ _
        exact (List.pairwise_append.mp (u.sublist hsub)).2.2 y hy x (List.mem_singleton.mpr rfl)
      have la : (t.take i).length + 1 ≤ sizeLine := by
        rw [List.length_take]
        exact Nat.le_trans (show _ ≤ 101 by omega) (by decide)
      have n1 : -x ∉ t.take i := fun m => by have := up _ m; rw [absI_neg] at this; omega
      have n2 : x ∉ t.take i := fun m => by have := up _ m; omega
      generalize hacc : t.take i = acc at la n1 n2 ht
      have f1' := fIn_IL (-x) acc
      have f2 := fNotIn_IL x acc
      refine ⟨[.bo (.list (l.map .int)), .ow (.list (acc.map .int)), .cl (.int x)], [.bo (.list (l.map .int)), .ow (.list ((acc ++ [x]).map .int)), .cl (.int x)], by simp [hs2], .inl ?_, .cl (.int x), by rw [ht], rfl⟩
      simp -implicitDefEqProofs [m__law_joined_1, f1', f2, n1, n2, one_size, fRep_1, la]
  rw [Nat.zero_add, List.length_map, List.take_length] at eρ
  subst eρ
  simp -implicitDefEqProofs [g__law_joined, runD, m__law_joined, s1, e]
/-- the row's literal that stands for a literal -/
def rowL (row : List Int) (x : Int) : Int := if 0 < x then row.getD (absI x - 1).toNat 0 else -row.getD (absI x - 1).toNat 0
def turnL (row : List Int) (cs : List (List Int)) : List (List Int) := cs.map fun c => sAbs (c.map (rowL row))
structure RowOk (row : List Int) : Prop where
  atoms : ∀ x ∈ row, -12 ≤ x ∧ x ≤ 12 ∧ x ≠ 0
  diff : row.Pairwise fun a b => absI a ≠ absI b
theorem RowOk.len {row : List Int} (h : RowOk row) : row.length ≤ 12 := by
  have n : (row.map absI).Nodup := List.pairwise_map.mpr h.diff
  obtain ⟨u, p⟩ := sAbs_up h.diff
  rw [← p.length_eq]
  have := up_len (c := sAbs row) 0 (fun x hx => by
    obtain ⟨h1, h2, h3⟩ := h.atoms x (p.mem_iff.mp hx)
    unfold absI; split <;> omega) u (by decide)
  omega
theorem is_names {row : List Int} (h : RowOk row) : g_is_names [encI row, .int (row.length : Nat)] = .ok false (.bool true) [] := by
  have hl := h.len
  have hs : row.length ≤ sizeLine := Nat.le_trans hl (by decide)
  have c1 : mLc (iSeqM (mV 0)) (tName 2) tYesM m_is_names_3 [2] [.cl (encI row), .cl (.int (row.length : Nat)), .un] = .ok (.fr (.list (row.map fun _ => .bool true))) [.cl (encI row), .cl (.int (row.length : Nat)), .un] :=
    mLc_encM .int _ (by simp -implicitDefEqProofs) rfl hs fun x hx => by
      obtain ⟨h1, h2, h3⟩ := h.atoms x hx
      have e := is_within x (-12) 12
      rw [decide_eq_true h1, decide_eq_true h2] at e
      simp -implicitDefEqProofs [m_is_names_3, neg12, e, h3]
  have a1 := fAll_map (fun _ : Int => true) row
  rw [List.all_eq_true.mpr fun _ _ => rfl] at a1
  have d1 : mDc (iSeqM (mV 0)) (tName 2) tYesM m_is_names_1 m_is_names_2 [2] [.cl (encI row), .cl (.int (row.length : Nat)), .un] = .ok (.fr (.dict ((row.map absI).map fun i => (PyData.int i, PyData.bool true)))) [.cl (encI row), .cl (.int (row.length : Nat)), .un] :=
    mDc_int absI _ (by simp -implicitDefEqProofs) rfl hs (List.pairwise_map.mpr h.diff) fun a _ => ⟨by simp -implicitDefEqProofs [m_is_names_1], by simp -implicitDefEqProofs [m_is_names_2]⟩
  have fl : fLen (.dict ((row.map absI).map fun i => (PyData.int i, PyData.bool true))) = some (.val (.int (row.length : Nat))) := by
    have pl := plain_ints (row.map absI) (.bool true)
    show (if plainK _ = true then some _ else none).map (fun n : Nat => Op.val (.int (n : Nat))) = _
    rw [if_pos pl]
    simp
  generalize (row.map absI).map (fun i => (PyData.int i, PyData.bool true)) = kd at d1 fl
  simp -implicitDefEqProofs [g_is_names, runD, m_is_names, c1, a1, d1, fl]
theorem getD_at {row : List Int} {k : Nat} (h : k < row.length) : row[k]? = some (row.getD k 0) := by
  rw [List.getD_eq_getElem?_getD, List.getElem?_eq_getElem h]; rfl
theorem rowL_abs {row : List Int} {x : Int} : absI (rowL row x) = absI (row.getD (absI x - 1).toNat 0) := by
  unfold rowL
  split
  · rfl
  · exact absI_neg _
theorem rowL_ok {row : List Int} (h : RowOk row) {x : Int} (h0 : x ≠ 0) (h1 : absI x ≤ row.length) : rowL row x ∈ row ∨ -rowL row x ∈ row := by
  have hk : (absI x - 1).toNat < row.length := by unfold absI at *; split at h1 <;> split <;> omega
  have m : row.getD (absI x - 1).toNat 0 ∈ row := List.mem_of_getElem? (getD_at hk)
  unfold rowL
  split
  · exact .inl m
  · right; rwa [Int.neg_neg]
theorem rowL_diff {row : List Int} (h : RowOk row) {x y : Int} (hx0 : x ≠ 0) (hx : absI x ≤ row.length) (hy0 : y ≠ 0) (hy : absI y ≤ row.length) (ne : absI x ≠ absI y) : absI (rowL row x) ≠ absI (rowL row y) := by
  rw [rowL_abs, rowL_abs]
  have hxp : 1 ≤ absI x := by unfold absI; split <;> omega
  have hyp : 1 ≤ absI y := by unfold absI; split <;> omega
  have kx : (absI x - 1).toNat < row.length := by omega
  have ky : (absI y - 1).toNat < row.length := by omega
  have e1 : row.getD (absI x - 1).toNat 0 = row[(absI x - 1).toNat] := by rw [List.getD_eq_getElem?_getD, List.getElem?_eq_getElem kx]; rfl
  have e2 : row.getD (absI y - 1).toNat 0 = row[(absI y - 1).toNat] := by rw [List.getD_eq_getElem?_getD, List.getElem?_eq_getElem ky]; rfl
  rw [e1, e2]
  have q := List.pairwise_iff_getElem.mp h.diff
  rcases Nat.lt_trichotomy (absI x - 1).toNat (absI y - 1).toNat with l | l | l
  · exact q _ _ kx ky l
  · omega
  · exact (q _ _ ky kx l).symm
theorem row_clause {row c : List Int} (h : RowOk row) (hc : ClOk c) (hl : ∀ x ∈ c, absI x ≤ row.length) : (c.map (rowL row)).Pairwise (fun a b => absI a ≠ absI b) ∧ ∀ x ∈ c.map (rowL row), -12 ≤ x ∧ x ≤ 12 ∧ x ≠ 0 := by
  constructor
  · rw [List.pairwise_map]
    refine List.Pairwise.imp_of_mem (fun {a b} ha hb q => ?_) hc.up
    exact rowL_diff h (hc.atoms a ha).2.2 (hl a ha) (hc.atoms b hb).2.2 (hl b hb) (by omega)
  · intro y hy
    obtain ⟨x, hx, rfl⟩ := List.mem_map.mp hy
    rcases rowL_ok h (hc.atoms x hx).2.2 (hl x hx) with m | m
    · exact h.atoms _ m
    · obtain ⟨h1, h2, h3⟩ := h.atoms _ m
      omega
theorem turn_clause {row c : List Int} (h : RowOk row) (hc : ClOk c) (hl : ∀ x ∈ c, absI x ≤ row.length) : ClOk (sAbs (c.map (rowL row))) := by
  obtain ⟨h1, h2⟩ := row_clause h hc hl
  obtain ⟨u, p⟩ := sAbs_up h1
  exact ⟨fun x hx => h2 x (p.mem_iff.mp hx), u⟩
theorem CsOk.turn {row : List Int} {cs : List (List Int)} (h : RowOk row) (hc : CsOk cs) (hl : ∀ c ∈ cs, ∀ x ∈ c, absI x ≤ row.length) : CsOk (turnL row cs) := by
  refine ⟨by unfold turnL; rw [List.length_map]; exact hc.many, fun d hd => ?_⟩
  obtain ⟨c, hcm, rfl⟩ := List.mem_map.mp hd
  exact turn_clause h (hc.ok c hcm) (hl c hcm)
theorem rowIx {row : List Int} {k : Int} (h1 : 0 ≤ k) (h2 : k < row.length) : fIx (encI row) (.int k) = some (.val (.int (row.getD k.toNat 0))) := by
  have hk : k.toNat < row.length := by omega
  have := getD_at hk
  show (atI (row.map PyData.int) k).map _ = _
  rw [atI_pos _ h1, List.getElem?_map, this]; rfl
theorem turned_atoms {cs : List (List Int)} {row : List Int} (h : CsOk cs) (hr : RowOk row) (hm : manyI cs = row.length) : g_turned_atoms [encC cs, encI row] = .ok false (encC (turnL row cs)) [] := by
  have hl : ∀ c ∈ cs, ∀ x ∈ c, absI x ≤ row.length := fun c hc x hx => by have := many_le hc hx; omega
  have hl2 : ∀ c ∈ cs, c.length ≤ 100 := fun c hc => Nat.le_trans (h.ok c hc).len (by decide)
  have e0 := check_ok h.many h.ok
  have e1 := many_in (Nat.le_trans h.many (by decide)) hl2
  rw [many_eq fun c hc => (h.ok c hc).up, hm] at e1
  have e2 := is_names hr
  have h80 := h.many
  let P : Nat → Ev → Prop := fun i ρ => ∃ s3, ρ = [.cl (encC cs), .cl (encI row), .ow (.list ((turnL row (cs.take i)).map encI)), s3, .un] ∧ free (some s3) = true
  obtain ⟨ρ', e, s3, eρ, _⟩ := forI_inv (t := tName 3) (b := m_turned_atoms_2) (P := P) (cs.map encI) 0 [.cl (encC cs), .cl (encI row), .ow (.list []), .un, .un] ⟨.un, by simp [turnL], rfl⟩ fun i d ρ hd hp => by
    obtain ⟨s3, eρ, hs3⟩ := hp
    rw [Nat.zero_add] at eρ ⊢
    subst eρ
    rw [List.getElem?_map] at hd
    cases hci : cs[i]? with
    | none => rw [hci] at hd; cases hd
    | some c =>
      rw [hci] at hd
      have hd : encI c = d := Option.some.inj hd
      subst hd
      have hcm : c ∈ cs := List.mem_of_getElem? hci
      have fe : turnL row (cs.take (i + 1)) = turnL row (cs.take i) ++ [sAbs (c.map (rowL row))] := by
        unfold turnL
        rw [List.take_add_one, hci, List.map_append]; rfl
      have hacc : (turnL row (cs.take i)).length < sizeLine := by
        unfold turnL
        rw [List.length_map, List.length_take]
        exact Nat.lt_of_le_of_lt (show _ ≤ 80 by omega) (by decide)
      generalize turnL row (cs.take i) = acc at hacc fe ⊢
      have c1 : mLc (iSeqM (mV 3)) (tName 4) tYesM m_turned_atoms_1 [4] [.cl (encC cs), .cl (encI row), .ow (.list (acc.map encI)), .cl (encI c), .un] = .ok (.fr (.list (c.map fun x => .int (rowL row x)))) [.cl (encC cs), .cl (encI row), .ow (.list (acc.map encI)), .cl (encI c), .un] :=
        mLc_encM .int _ (by simp -implicitDefEqProofs) rfl (h.ok c hcm).size fun x hx => by
          have hx0 := ((h.ok c hcm).atoms x hx).2.2
          have hxl := hl c hcm x hx
          by_cases p : 0 < x
          · have ea : absI x = x := by unfold absI; split <;> omega
            rw [ea] at hxl
            have ix := rowIx (row := row) (k := x - 1) (by omega) (by omega)
            simp -implicitDefEqProofs [m_turned_atoms_1, p, ix, rowL, ea]
          · have ea : absI x = -x := by unfold absI; split <;> omega
            rw [ea] at hxl
            have ix := rowIx (row := row) (k := -x - 1) (by omega) (by omega)
            simp -implicitDefEqProofs [m_turned_atoms_1, p, ix, rowL, ea]
      have hm2 : (c.map fun x => PyData.int (rowL row x)) = (c.map (rowL row)).map .int := by rw [List.map_map]; rfl
      rw [hm2] at c1
      have ej := joined (l := c.map (rowL row)) (by rw [List.length_map]; exact hl2 c hcm) (row_clause hr (h.ok c hcm) (hl c hcm)).1
      generalize c.map (rowL row) = cl at c1 ej fe
      refine ⟨[.cl (encC cs), .cl (encI row), .ow (.list (acc.map encI)), .cl (encI c), .un], [.cl (encC cs), .cl (encI row), .ow (.list ((acc ++ [sAbs cl]).map encI)), .cl (encI c), .un], by simp [hs3], .inl ?_, .cl (encI c), by rw [fe], rfl⟩
      simp -implicitDefEqProofs [m_turned_atoms_2, c1, ej, hacc]
  rw [Nat.zero_add, List.length_map, List.take_length] at eρ
  subst eρ
  simp -implicitDefEqProofs [g_turned_atoms, runD, m_turned_atoms, e0, e1, e2, e, truD_bool]
end Lb
set_option maxHeartbeats 2000000
namespace Lb
open PySem PySem.Spec L2 Vx
section
variable {S α β : Type} (E : S → Ev) (R : Nat → S → Prop) (G : α → β → Prop) (ea : α → D) (eb : β → D) {v : Nat} {tt : M Bool} {e : M Op} {it : M (List D)}
theorem lcI_st {x0 : Sl} (hx0 : wipable (some x0) = true) (hv : ∀ s, (E s)[v]? = some x0) : ∀ (l : List α) (acc : List D) (s : S) (ρ : Ev), unS ρ [v] = unS (E s) [v] → acc.length + l.length ≤ sizeLine → R l.length s →
    (∀ a ∈ l, ∀ m s, R (m + 1) s → ∃ s', R m s' ∧ ((∃ ρ2 z, tt ((E s).set v (.cl (ea a))) = .ok true ρ2 ∧ mK e ρ2 = .ok (eb z) ((E s').set v (.cl (ea a))) ∧ G a z) ∨ tt ((E s).set v (.cl (ea a))) = .ok false ((E s').set v (.cl (ea a))))) →
    ∃ zs sub s' ρ', lcI (tName v) tt e [v] (l.map ea) acc ρ = .ok (acc ++ zs.map eb) ρ' ∧ unS ρ' [v] = unS (E s') [v] ∧ sub.Sublist l ∧ PySem.W.EachIs G sub zs ∧ R 0 s'
  | [], acc, s, ρ, hu, _, hR, _ => ⟨[], [], s, ρ, by rw [List.map_nil]; unfold lcI; simp, hu, .slnil, .nil, hR⟩
  | a :: l, acc, s, ρ, hu, hz, hR, h => by
    have wp : ∀ s, wipable (E s)[v]? = true := fun s => by rw [hv s]; exact hx0
    have us : ∀ (s : S) (d : D), unS ((E s).set v (.cl d)) [v] = unS (E s) [v] := fun s d => (set1 (wp s)).2
    obtain ⟨s', r', hs⟩ := h a List.mem_cons_self l.length s hR
    have hr := fun x hx => h x (List.mem_cons_of_mem _ hx)
    have hz : acc.length + (l.length + 1) ≤ sizeLine := hz
    have t1 : tName v (ea a) (unS ρ [v]) = some ((E s).set v (.cl (ea a))) := by
      rw [hu]
      exact (set1 (v := v) (d := ea a) (wp s)).1
    rw [List.map_cons]
    unfold lcI
    rw [t1]
    dsimp only
    rcases hs with ⟨ρ2, z, e1, e2, g⟩ | e1
    · rw [e1]
      dsimp only
      rw [e2]
      dsimp only
      rw [if_pos (by omega)]
      obtain ⟨zs, sub, s2, ρ', q1, q2, q3, q4, q5⟩ := lcI_st hx0 hv l (acc ++ [eb z]) s' _ (us s' (ea a)) (by simp; omega) r' hr
      refine ⟨z :: zs, a :: sub, s2, ρ', ?_, q2, q3.cons₂ a, .cons g q4, q5⟩
      rw [q1, List.append_assoc]; rfl
    · rw [e1]
      dsimp only
      obtain ⟨zs, sub, s2, ρ', q1, q2, q3, q4, q5⟩ := lcI_st hx0 hv l acc s' _ (us s' (ea a)) (by omega) r' hr
      exact ⟨zs, sub, s2, ρ', q1, q2, q3.cons a, q4, q5⟩
theorem mLc_stx {ρ : Ev} {s : S} {l : List α} {x0 : Sl} (hx0 : wipable (some x0) = true) (hv : ∀ s, (E s)[v]? = some x0) (hi : it ρ = .ok (l.map ea) (E s)) (hz : l.length ≤ sizeLine) (hR : R l.length s)
    (h : ∀ a ∈ l, ∀ m s, R (m + 1) s → ∃ s', R m s' ∧ ((∃ ρ2 z, tt ((E s).set v (.cl (ea a))) = .ok true ρ2 ∧ mK e ρ2 = .ok (eb z) ((E s').set v (.cl (ea a))) ∧ G a z) ∨ tt ((E s).set v (.cl (ea a))) = .ok false ((E s').set v (.cl (ea a))))) :
    ∃ zs sub s', mLc it (tName v) tt e [v] ρ = .ok (.fr (.list (zs.map eb))) (E s') ∧ sub.Sublist l ∧ PySem.W.EachIs G sub zs ∧ R 0 s' := by
  obtain ⟨zs, sub, s', ρ', q1, q2, q3, q4, q5⟩ := lcI_st E R G ea eb hx0 hv l [] s (E s) rfl (by simpa using hz) hR h
  refine ⟨zs, sub, s', ?_, q3, q4, q5⟩
  unfold mLc
  rw [hi, Rs.bind_ok, if_pos (by simp [hv s, hx0]), q1]
  dsimp only
  rw [List.nil_append]
  have : bkS (E s) ρ' [v] = E s' := by
    show ρ'.set v ((E s)[v]?.getD .un) = E s'
    rw [hv s]
    have q2 : ρ'.set v .un = (E s').set v .un := q2
    have he : (E s')[v]'(List.getElem?_eq_some_iff.mp (hv s')).1 = x0 := (List.getElem?_eq_some_iff.mp (hv s')).2
    have : (ρ'.set v .un).set v x0 = ((E s').set v .un).set v x0 := by rw [q2]
    rw [List.set_set, List.set_set] at this
    show ρ'.set v x0 = _
    rw [this, ← he, List.set_getElem_self]
  rw [this]
theorem mLc_st {ρ : Ev} {s : S} {l : List α} (hv : ∀ s, (E s)[v]? = some .un) (hi : it ρ = .ok (l.map ea) (E s)) (hz : l.length ≤ sizeLine) (hR : R l.length s)
    (h : ∀ a ∈ l, ∀ m s, R (m + 1) s → ∃ s', R m s' ∧ ((∃ ρ2 z, tt ((E s).set v (.cl (ea a))) = .ok true ρ2 ∧ mK e ρ2 = .ok (eb z) ((E s').set v (.cl (ea a))) ∧ G a z) ∨ tt ((E s).set v (.cl (ea a))) = .ok false ((E s').set v (.cl (ea a))))) :
    ∃ zs sub s', mLc it (tName v) tt e [v] ρ = .ok (.fr (.list (zs.map eb))) (E s') ∧ sub.Sublist l ∧ PySem.W.EachIs G sub zs ∧ R 0 s' := mLc_stx E R G ea eb rfl hv hi hz hR h
theorem lcI_stM {x0 : Sl} (hx0 : wipable (some x0) = true) (hv : ∀ s, (E s)[v]? = some x0) : ∀ (l : List α) (acc : List D) (s : S) (ρ : Ev), unS ρ [v] = unS (E s) [v] → acc.length + l.length ≤ sizeLine → R l.length s →
    (∀ a ∈ l, ∀ m s, R (m + 1) s → ∃ s' z, R m s' ∧ mK e ((E s).set v (.cl (ea a))) = .ok (eb z) ((E s').set v (.cl (ea a))) ∧ G a z) →
    ∃ zs s' ρ', lcI (tName v) tYesM e [v] (l.map ea) acc ρ = .ok (acc ++ zs.map eb) ρ' ∧ unS ρ' [v] = unS (E s') [v] ∧ PySem.W.EachIs G l zs ∧ R 0 s'
  | [], acc, s, ρ, hu, _, hR, _ => ⟨[], s, ρ, by rw [List.map_nil]; unfold lcI; simp, hu, .nil, hR⟩
  | a :: l, acc, s, ρ, hu, hz, hR, h => by
    have wp : ∀ s, wipable (E s)[v]? = true := fun s => by rw [hv s]; exact hx0
    obtain ⟨s', z, r', e2, g⟩ := h a List.mem_cons_self l.length s hR
    have hr := fun x hx => h x (List.mem_cons_of_mem _ hx)
    have hz : acc.length + (l.length + 1) ≤ sizeLine := hz
    have t1 : tName v (ea a) (unS ρ [v]) = some ((E s).set v (.cl (ea a))) := by
      rw [hu]
      exact (set1 (v := v) (d := ea a) (wp s)).1
    rw [List.map_cons]
    unfold lcI
    rw [t1]
    dsimp only
    rw [ev_Yes]
    dsimp only
    rw [e2]
    dsimp only
    rw [if_pos (by omega)]
    obtain ⟨zs, s2, ρ', q1, q2, q4, q5⟩ := lcI_stM hx0 hv l (acc ++ [eb z]) s' _ (set1 (wp s')).2 (by simp; omega) r' hr
    refine ⟨z :: zs, s2, ρ', ?_, q2, .cons g q4, q5⟩
    rw [q1, List.append_assoc]; rfl
theorem mLc_stM {ρ : Ev} {s : S} {l : List α} {x0 : Sl} (hx0 : wipable (some x0) = true) (hv : ∀ s, (E s)[v]? = some x0) (hi : it ρ = .ok (l.map ea) (E s)) (hz : l.length ≤ sizeLine) (hR : R l.length s)
    (h : ∀ a ∈ l, ∀ m s, R (m + 1) s → ∃ s' z, R m s' ∧ mK e ((E s).set v (.cl (ea a))) = .ok (eb z) ((E s').set v (.cl (ea a))) ∧ G a z) :
    ∃ zs s', mLc it (tName v) tYesM e [v] ρ = .ok (.fr (.list (zs.map eb))) (E s') ∧ PySem.W.EachIs G l zs ∧ R 0 s' := by
  obtain ⟨zs, s', ρ', q1, q2, q4, q5⟩ := lcI_stM E R G ea eb hx0 hv l [] s (E s) rfl (by simpa using hz) hR h
  refine ⟨zs, s', ?_, q4, q5⟩
  unfold mLc
  rw [hi, Rs.bind_ok, if_pos (by simp [hv s, hx0]), q1]
  dsimp only
  rw [List.nil_append]
  have : bkS (E s) ρ' [v] = E s' := by
    show ρ'.set v ((E s)[v]?.getD .un) = E s'
    rw [hv s]
    have q2 : ρ'.set v .un = (E s').set v .un := q2
    have he : (E s')[v]'(List.getElem?_eq_some_iff.mp (hv s')).1 = x0 := (List.getElem?_eq_some_iff.mp (hv s')).2
    have : (ρ'.set v .un).set v x0 = ((E s').set v .un).set v x0 := by rw [q2]
    rw [List.set_set, List.set_set] at this
    show ρ'.set v x0 = _
    rw [this, ← he, List.set_getElem_self]
  rw [this]
end
end Lb
set_option maxHeartbeats 2000000
namespace Lb
open PySem PySem.Spec L2 Vx
def m__law_clause_1 : M Op :=
    (m2 fMul (mCall g__law_any [.mu, .pl] (aCons (mV 0) (aCons (mLst (kCons (mC (.int 1)) (kCons (m1 fNeg (mC (.int 1))) kNil))) aNil))) (mV 4))
def m__law_clause : M Fl :=
    (sSeq (sSet 3 (mB (f1 fSorted) (aCons (mSl fSl (mCall g__law_mixed [.mu, .pl] (aCons (mV 0) (aCons (mRg (mC (.int 1)) (m2 fAdd (mV 1) (mC (.int 1)))) aNil))) bNo (bAt (mCall g__law_draw [.mu, .pl] (aCons (mV 0) (aCons (m2 fAdd (mV 2) (mC (.int 1))) aNil))))) aNil)))
    (sRet (mB (f1 fTuple) (aCons (mLc (iSeqM (mV 3)) (tName 4) tYesM m__law_clause_1 [4]) aNil))))
def g__law_clause : List D → FR := runD [.mu, .pl, .pl] 2 m__law_clause
theorem perm_ints {es : List D} {l : List Int} (h : es.Perm (l.map .int)) : ∃ t : List Int, es = t.map .int ∧ t.Perm l := by
  let u : D → Int := fun d => match d with | .int i => i | _ => 0
  refine ⟨es.map u, ?_, ?_⟩
  · rw [List.map_map]
    have : ∀ d ∈ es, (PyData.int ∘ u) d = d := fun d hd => by
      obtain ⟨i, _, rfl⟩ := List.mem_map.mp (h.mem_iff.mp hd)
      rfl
    rw [List.map_congr_left this, List.map_id']
  · have := h.map u
    rw [List.map_map] at this
    have e : l.map (u ∘ PyData.int) = l := by
      have : ∀ i ∈ l, (u ∘ PyData.int) i = i := fun _ _ => rfl
      rw [List.map_congr_left this, List.map_id']
    rwa [e] at this
/-- the atoms to k -/
def upto (k : Nat) : List Int := (List.range k).map fun (i : Nat) => (1 + i : Int)
theorem rngD_upto (k : Nat) : rngD 1 k = (upto k).map .int := by unfold rngD upto; rw [List.map_map]; rfl
theorem upto_len (k : Nat) : (upto k).length = k := by simp [upto]
theorem upto_mem {k : Nat} {x : Int} : x ∈ upto k ↔ 1 ≤ x ∧ x ≤ k := by
  unfold upto
  rw [List.mem_map]
  constructor
  · rintro ⟨i, hi, rfl⟩
    have := List.mem_range.mp hi
    omega
  · rintro ⟨h1, h2⟩
    exact ⟨(x - 1).toNat, List.mem_range.mpr (by omega), by omega⟩
theorem upto_nodup (k : Nat) : (upto k).Nodup := by
  unfold upto
  refine List.pairwise_map.mpr ((List.nodup_range (n := k)).imp fun h e => h (by omega))
theorem okRg_of {i : Int} (h : 0 ≤ i) (h2 : i ≤ 1000) : mRg.okRg i = true := by
  unfold mRg.okRg
  simp only [Bool.and_eq_true, decide_eq_true_eq]
  omega
theorem okRg_1 : mRg.okRg 1 = true := okRg_of (by decide) (by decide)
theorem two_size : 2 ≤ sizeLine := by decide
/-- one or its not -/
theorem sign {h : Hnd} {n : Nat} (w : h.Ok (n + 1)) : ∃ r h', g__law_any [h.d, .list [.int 1, .int (-1)]] = .ok false (.int r) [Hnd.d h'] ∧ (r = 1 ∨ r = -1) ∧ h'.Ok n := by
  obtain ⟨d, h', e, m, w'⟩ := any w (ds := [.int 1, .int (-1)]) (by simp) (by simp)
  rcases List.mem_cons.mp m with q | m
  · exact ⟨1, h', by rw [e, q], .inl rfl, w'⟩
  · rcases List.mem_cons.mp m with q | m
    · exact ⟨-1, h', by rw [e, q], .inr rfl, w'⟩
    · cases m
theorem neg1 : fNeg (.int 1) = some (.val (.int (-1))) := rfl
theorem each_abs {sub zs : List Int} (h : PySem.W.EachIs (fun x y => y = x ∨ y = -x) sub zs) (hs : sub.Pairwise (· < ·)) {k : Int} (hk : k ≤ 12) (hp : ∀ x ∈ sub, 1 ≤ x ∧ x ≤ k) : ClOk zs ∧ (∀ y ∈ zs, absI y ≤ k) ∧ ∀ y ∈ zs, absI y ∈ sub := by
  induction h with
  | nil => exact ⟨⟨(fun x hx => nomatch hx), List.Pairwise.nil⟩, (fun y hy => nomatch hy), fun y hy => nomatch hy⟩
  | @cons x y sub zs g t ih =>
    have hs' := List.pairwise_cons.mp hs
    obtain ⟨i1, i2, i3⟩ := ih hs'.2 fun x hx => hp x (List.mem_cons_of_mem _ hx)
    obtain ⟨p1, p2⟩ := hp x List.mem_cons_self
    have ea : absI y = x := by unfold absI; split <;> omega
    refine ⟨⟨fun a ha => ?_, List.pairwise_cons.mpr ⟨fun b hb => ?_, i1.up⟩⟩, fun a ha => ?_, fun a ha => ?_⟩
    · rcases List.mem_cons.mp ha with e | m
      · subst e; omega
      · exact i1.atoms a m
    · rw [ea]; exact hs'.1 _ (i3 b hb)
    · rcases List.mem_cons.mp ha with e | m
      · subst e; omega
      · exact i2 a m
    · rcases List.mem_cons.mp ha with e | m
      · rw [e, ea]; exact List.mem_cons_self
      · exact List.mem_cons_of_mem _ (i3 a m)
theorem law_clause {h : Hnd} {n k m : Nat} (w : h.Ok (n + (1 + k + k))) (hk : k ≤ 12) (hm : m ≤ 12) : ∃ c h', g__law_clause [h.d, .int (k : Nat), .int (m : Nat)] = .ok false (encI c) [Hnd.d h'] ∧ ClOk c ∧ (∀ x ∈ c, absI x ≤ k) ∧ h'.Ok n := by
  obtain ⟨es, h1, e1, p1, w1⟩ := mixed (h := h) (n := n + (1 + k)) (ds := (upto k).map .int) (by rw [List.length_map, upto_len]; exact w.mono (by omega)) (by rw [List.length_map, upto_len]; omega)
  obtain ⟨t, rfl, pt⟩ := perm_ints p1
  obtain ⟨r, h2, e2, r1, r2, w2⟩ := draw (h := h1) (n := n + k) (w1.mono (by omega)) (m := (m : Int) + 1) (by omega) (by omega)
  have rg := okRg_of (i := (k : Int) + 1) (by omega) (by omega)
  have ru := rngD_upto k
  have ct := cut_toI (t.map PyData.int) r1
  rw [← List.map_take] at ct
  have so : fSorted (.list ((t.take r.toNat).map .int)) = some (.fr (.list ((sortI (t.take r.toNat)).map .int))) := by
    unfold fSorted
    rw [lInts_list, intsD_map]; rfl
  have ps := sortI_perm (t.take r.toNat)
  have ss := sortI_sorted (t.take r.toNat)
  have nd : (sortI (t.take r.toNat)).Nodup := ps.symm.nodup ((pt.symm.nodup (upto_nodup k)).sublist (List.take_sublist _ _))
  have st : (sortI (t.take r.toNat)).Pairwise (· < ·) := (ss.and nd).imp fun ⟨a, b⟩ => by omega
  have ml : ∀ x ∈ sortI (t.take r.toNat), 1 ≤ x ∧ x ≤ (k : Int) := fun x hx => upto_mem.mp (pt.mem_iff.mp (List.mem_of_mem_take (ps.mem_iff.mp hx)))
  have lz : (sortI (t.take r.toNat)).length ≤ k := by
    rw [ps.length_eq, List.length_take, pt.length_eq, upto_len]; omega
  generalize sortI (t.take r.toNat) = L at *
  generalize t.take r.toNat = tt at *
  obtain ⟨zs, sub, h3, c1, q1, q2, w3⟩ := mLc_st (it := iSeqM (mV 3)) (tt := tYesM) (e := m__law_clause_1) (v := 4) (ρ := [.le h2.d, .cl (.int (k : Nat)), .cl (.int (m : Nat)), .ow (.list (L.map .int)), .un]) (fun s : Hnd => [.le s.d, .cl (.int (k : Nat)), .cl (.int (m : Nat)), .cl (.list (L.map .int)), .un]) (fun m s => s.Ok (n + m)) (fun x y : Int => y = x ∨ y = -x) PyData.int PyData.int (s := h2) (l := L) (fun _ => rfl) (by simp -implicitDefEqProofs) (Nat.le_trans (show _ ≤ 12 by omega) (by decide)) (w2.mono (by omega)) fun x hx m s ws => by
    obtain ⟨d, s', e, dd, w'⟩ := sign (h := s) (n := n + m) ws
    obtain ⟨x1, x2⟩ := ml x hx
    have mu := fMul_int (i := d) (j := x) (okMul_of (a := 8) (b := 8) (by omega) (by omega) (by decide))
    refine ⟨s', w', .inl ⟨_, d * x, rfl, ?_, ?_⟩⟩
    · simp -implicitDefEqProofs [m__law_clause_1, neg1, e, mu, two_size]
    · rcases dd with q | q <;> subst q <;> omega
  have k1 : m + 1 = m + 1 := rfl
  refine ⟨zs, h3, ?_, (each_abs q2 (st.sublist q1) (by omega) fun x hx => ml x (q1.subset hx)).1, (each_abs q2 (st.sublist q1) (by omega) fun x hx => ml x (q1.subset hx)).2.1, w3⟩
  simp -implicitDefEqProofs [g__law_clause, runD, m__law_clause, rg, ru, okRg_1, e1, e2, ct, so, c1]
end Lb
set_option maxHeartbeats 2000000
namespace Lb
open PySem PySem.Spec L2 Vx
def m__law_clauses_1 : M Bool :=
    (mOr (mT (m2 fGt (mV 3) (mC (.int 2)))) (mT (m2 fGt (mCall g__law_draw [.mu, .pl] (aCons (mV 0) (aCons (mC (.int 8)) aNil))) (mC (.int 0)))))
def m__law_clauses_2 : M Op :=
    (mB (f1 fTuple) (aCons (m1 (fSrtK kAbs) (mV 7)) aNil))
def m__law_clauses_3 : M Fl :=
    (sDrop (meExt 8 (mLst (kCons (m2 fAdd (mV 7) (mTup (kCons (mV 5) kNil))) (kCons (m2 fAdd (mV 7) (mTup (kCons (m2 fSub (mC (.int 0)) (mV 5)) kNil))) kNil)))))
def m__law_clauses_4 : M Fl :=
    (sSeq (sSet 8 (mLst kNil))
    (sSeq (sFor (iSeqM (mV 4)) (tName 7) m__law_clauses_3)
    (sSet 4 (mV 8))))
def m__law_clauses_5 : M Bool :=
    (mOr (mT (m2 fGt (mB (f1 fLen) (aCons (mV 7) aNil)) (mC (.int 0)))) (mT (m2 fEq (mCall g__law_draw [.mu, .pl] (aCons (mV 0) (aCons (mC (.int 6)) aNil))) (mC (.int 0)))))
def m__law_clauses_6 : M Op :=
    (mV 7)
def m__law_clauses_7 : M Op :=
    (mCall g__law_clause [.mu, .pl, .pl] (aCons (mV 0) (aCons (mV 2) (aCons (mC (.int 3)) aNil))))
def m__law_clauses : M Fl :=
    (sSeq (sTg (tTup (tsCons (tName 2) (tsCons (tName 3) tsNil))) (mTup (kCons (m2 fAdd (mC (.int 1)) (mCall g__law_draw [.mu, .pl] (aCons (mV 0) (aCons (mC (.int 4)) aNil)))) (kCons (mCall g__law_draw [.mu, .pl] (aCons (mV 0) (aCons (mC (.int 5)) aNil))) kNil))))
    (sSeq (sSet 1 (mLc (iFn rng1 (aCons (mCall g__law_draw [.mu, .pl] (aCons (mV 0) (aCons (mC (.int 9)) aNil))) aNil)) (tName 6) tYesM m__law_clauses_7 [6]))
    (sSeq (sSet 1 (mLc (iSeqM (mV 1)) (tName 7) m__law_clauses_5 m__law_clauses_6 [7]))
    (sSeq (sIf (mT (m2 fGt (mV 3) (mC (.int 1)))) (sSeq (sSet 4 (mLst (kCons (mTup kNil) kNil)))
    (sSeq (sFor (iSeqM (mSl fSl (mCall g__law_mixed [.mu, .pl] (aCons (mV 0) (aCons (mRg (mC (.int 1)) (m2 fAdd (mV 2) (mC (.int 1)))) aNil))) bNo (bAt (mC (.int 3))))) (tName 5) m__law_clauses_4)
    (sSet 1 (m2 fAdd (mSl fSl (mV 1) bNo (bAt (mC (.int 3)))) (mLc (iSeqM (mV 4)) (tName 7) m__law_clauses_1 m__law_clauses_2 [7]))))) sNx)
    (sRet (mB (f1 fTuple) (aCons (mCall g__law_mixed [.mu, .pl] (aCons (mV 0) (aCons (m2 fAdd (mV 1) (mSl fSl (mV 1) bNo (bAt (mCall g__law_draw [.mu, .pl] (aCons (mV 0) (aCons (mC (.int 2)) aNil)))))) aNil))) aNil)))))))
def g__law_clauses : List D → FR := runD [.mu] 8 m__law_clauses
def growL (a : Int) (L : List (List Int)) : List (List Int) := L.flatMap fun o => [o ++ [a], o ++ [-a]]
theorem grow_len (a : Int) (L : List (List Int)) : (growL a L).length = 2 * L.length := by
  unfold growL
  induction L with
  | nil => rfl
  | cons o L ih => rw [List.flatMap_cons, List.length_append, ih, List.length_cons]; simp; omega
theorem free_wip {s : Sl} (h : wipable (some s) = true) : free (some s) = true := by cases s <;> first | rfl | cases h
theorem grow_for {d w : D} {f A : Sl} {a : Int} {L : List (List Int)} (hL : L.length ≤ 100) (ho : ∀ o ∈ L, o.length ≤ 100) {s7 : Sl} (h7 : wipable (some s7) = true) : ∃ s7', wipable (some s7') = true ∧
    forI (tName 7) m__law_clauses_3 (L.map encI) [.le d, f, A, .cl w, .cl (.list (L.map encI)), .cl (.int a), .un, s7, .ow (.list [])] = .ok .nx [.le d, f, A, .cl w, .cl (.list (L.map encI)), .cl (.int a), .un, s7', .ow (.list ((growL a L).map encI))] := by
  let P : Nat → Ev → Prop := fun i ρ => ∃ s7', ρ = [.le d, f, A, .cl w, .cl (.list (L.map encI)), .cl (.int a), .un, s7', .ow (.list ((growL a (L.take i)).map encI))] ∧ wipable (some s7') = true
  obtain ⟨ρ', e, s7', eρ, hf⟩ := forI_inv (t := tName 7) (b := m__law_clauses_3) (P := P) (L.map encI) 0 [.le d, f, A, .cl w, .cl (.list (L.map encI)), .cl (.int a), .un, s7, .ow (.list [])] ⟨s7, by simp [growL], h7⟩ fun i dd ρ hd hp => by
    obtain ⟨q7, eρ, hq⟩ := hp
    have hq := free_wip hq
    rw [Nat.zero_add] at eρ ⊢
    subst eρ
    rw [List.getElem?_map] at hd
    cases hci : L[i]? with
    | none => rw [hci] at hd; cases hd
    | some o =>
      rw [hci] at hd
      have hd : encI o = dd := Option.some.inj hd
      subst hd
      have hom := List.mem_of_getElem? hci
      have ho1 : o.length + 1 ≤ sizeLine := Nat.le_trans (Nat.succ_le_succ (ho o hom)) (by decide)
      have fe : growL a (L.take (i + 1)) = growL a (L.take i) ++ [o ++ [a], o ++ [-a]] := by
        unfold growL
        rw [List.take_add_one, hci, List.flatMap_append]; simp
      have lz : (growL a (L.take i)).length + 2 ≤ sizeLine := by
        rw [grow_len, List.length_take]
        exact Nat.le_trans (show _ ≤ 300 by omega) (by decide)
      generalize growL a (L.take i) = acc at lz fe ⊢
      refine ⟨[.le d, f, A, .cl w, .cl (.list (L.map encI)), .cl (.int a), .un, .cl (encI o), .ow (.list (acc.map encI))], [.le d, f, A, .cl w, .cl (.list (L.map encI)), .cl (.int a), .un, .cl (encI o), .ow (.list ((acc ++ [o ++ [a], o ++ [-a]]).map encI))], by simp [hq], .inl ?_, .cl (encI o), by rw [fe], rfl⟩
      simp -implicitDefEqProofs [m__law_clauses_3, ho1, one_size, two_size, lz]
  rw [Nat.zero_add, List.length_map, List.take_length] at eρ
  subst eρ
  exact ⟨s7', hf, e⟩
/-- the lots of signs over the atoms as -/
theorem some_for {d w : D} {f A : Sl} (as : List Int) (hl : as.length ≤ 3) (hp : as.Pairwise fun a b => a ≠ b) (h1 : ∀ a ∈ as, 1 ≤ a ∧ a ≤ 12) : ∃ (s4 s5 s7 s8 : Sl) (L : List (List Int)), (s4 = .ow (.list (L.map encI)) ∨ s4 = .cl (.list (L.map encI))) ∧ wipable (some s7) = true ∧ L.length ≤ 8 ∧ (∀ o ∈ L, o.map absI = as) ∧
    forI (tName 5) m__law_clauses_4 (as.map .int) [.le d, f, A, .cl w, .ow (.list [.tuple []]), .un, .un, .un, .un] = .ok .nx [.le d, f, A, .cl w, s4, s5, .un, s7, s8] := by
  let P : Nat → Ev → Prop := fun i ρ => ∃ (s4 s5 s7 s8 : Sl) (L : List (List Int)), ρ = [.le d, f, A, .cl w, s4, s5, .un, s7, s8] ∧ (s4 = .ow (.list (L.map encI)) ∨ s4 = .cl (.list (L.map encI))) ∧ free (some s5) = true ∧ wipable (some s7) = true ∧ free (some s8) = true ∧ L.length = 2 ^ i ∧ (∀ o ∈ L, o.map absI = as.take i)
  obtain ⟨ρ', e, s4, s5, s7, s8, L, eρ, q4, _, q7, _, ql, qo⟩ := forI_inv (t := tName 5) (b := m__law_clauses_4) (P := P) (as.map .int) 0 [.le d, f, A, .cl w, .ow (.list [.tuple []]), .un, .un, .un, .un] ⟨.ow (.list [.tuple []]), .un, .un, .un, [[]], rfl, .inl rfl, rfl, rfl, rfl, rfl, fun o ho => by
      rcases List.mem_cons.mp ho with e | m
      · subst e; simp
      · cases m⟩ fun i dd ρ hd hp => by
    obtain ⟨s4, s5, s7, s8, L, eρ, q4, q5, q7, q8, ql, qo⟩ := hp
    simp only [Nat.zero_add] at ql qo ⊢
    subst eρ
    rw [List.getElem?_map] at hd
    cases hci : as[i]? with
    | none => rw [hci] at hd; cases hd
    | some a =>
      rw [hci] at hd
      have hd : PyData.int a = dd := Option.some.inj hd
      subst hd
      have hi : i < as.length := (List.getElem?_eq_some_iff.mp hci).1
      have pw : 2 ^ i ≤ 4 := Nat.le_trans (Nat.pow_le_pow_right (by decide) (show i ≤ 2 by omega)) (by decide)
      obtain ⟨a1, a2⟩ := h1 a (List.mem_of_getElem? hci)
      obtain ⟨s7', w7, g⟩ := grow_for (d := d) (w := w) (f := f) (A := A) (a := a) (L := L) (by omega) (fun o ho => by
        have := congrArg List.length (qo o ho)
        rw [List.length_map, List.length_take] at this
        omega) q7
      have gl := grow_len a L
      have go : ∀ o ∈ growL a L, o.map absI = as.take (i + 1) := fun o ho => by
        obtain ⟨o', ho', m⟩ := List.mem_flatMap.mp ho
        have ea : absI a = a := by unfold absI; split <;> omega
        have en : absI (-a) = a := by rw [absI_neg]; exact ea
        rw [List.take_add_one, hci, ← qo o' ho']
        rcases List.mem_cons.mp m with e | m
        · subst e; simp [ea]
        · rcases List.mem_cons.mp m with e | m
          · subst e; simp [en]
          · cases m
      generalize growL a L = L' at *
      refine ⟨[.le d, f, A, .cl w, s4, .cl (.int a), .un, s7, s8], [.le d, f, A, .cl w, .cl (.list (L'.map encI)), .cl (.int a), .un, s7', .cl (.list (L'.map encI))], by simp [q5], .inl ?_, _, _, _, _, L', rfl, .inr rfl, rfl, w7, rfl, ?_, go⟩
      · rcases q4 with q4 | q4 <;> subst q4 <;> simp -implicitDefEqProofs [m__law_clauses_4, q8, g]
      · rw [gl, ql, Nat.pow_succ]; omega
  rw [Nat.zero_add, List.length_map] at ql qo
  rw [List.take_length] at qo
  subst eρ
  have : 2 ^ as.length ≤ 8 := Nat.le_trans (Nat.pow_le_pow_right (by decide) hl) (by decide)
  exact ⟨s4, s5, s7, s8, L, q4, q7, by omega, qo, e⟩
end Lb
set_option maxHeartbeats 2000000
namespace Lb
open PySem PySem.Spec L2 Vx
structure Good (c : List Int) : Prop where
  ok : ClOk c
  four : ∀ x ∈ c, absI x ≤ 4
theorem each_mem {α β : Type} {G : α → β → Prop} {Q : β → Prop} {as : List α} {bs : List β} (h : PySem.W.EachIs G as bs) (hq : ∀ a b, G a b → Q b) : ∀ b ∈ bs, Q b := by
  induction h with
  | nil => exact fun b hb => nomatch hb
  | cons g _ ih => exact fun b hb => (List.mem_cons.mp hb).elim (fun e => e ▸ hq _ _ g) (ih b)
theorem each_len {α β : Type} {G : α → β → Prop} {as : List α} {bs : List β} (h : PySem.W.EachIs G as bs) : bs.length = as.length := by
  induction h with
  | nil => rfl
  | cons g _ ih => rw [List.length_cons, List.length_cons, ih]
theorem each_memL {α β : Type} {G : α → β → Prop} {as : List α} {bs : List β} (h : PySem.W.EachIs G as bs) : ∀ b ∈ bs, ∃ a ∈ as, G a b := by
  induction h with
  | nil => exact fun b hb => nomatch hb
  | cons g _ ih => exact fun b hb => (List.mem_cons.mp hb).elim (fun e => e ▸ ⟨_, List.mem_cons_self, g⟩) (fun m => by
      obtain ⟨a, ha, q⟩ := ih b m
      exact ⟨a, List.mem_cons_of_mem _ ha, q⟩)
theorem call_cl {g : List D → FR} {d d' c : D} {k w : Int} (e : g [d, .int k, .int 3] = .ok false c [d']) (x : D) : mK (mCall g [.mu, .pl, .pl] (aCons (mV 0) (aCons (mV 2) (aCons (mC (.int 3)) aNil)))) [.le d, .un, .cl (.int k), .cl (.int w), .un, .un, .cl x, .un, .un] = .ok c [.le d', .un, .cl (.int k), .cl (.int w), .un, .un, .cl x, .un, .un] := by
  simp -implicitDefEqProofs [e]
/-- the first clauses -/
theorem cl_first {s : Hnd} {n k : Nat} {w : Int} (hs : s.Ok (n + 82)) (hk : k ≤ 4) : ∃ (F : List (List Int)) (s' : Hnd), mLc (iFn rng1 (aCons (mCall g__law_draw [.mu, .pl] (aCons (mV 0) (aCons (mC (.int 9)) aNil))) aNil)) (tName 6) tYesM m__law_clauses_7 [6] [.le s.d, .un, .cl (.int (k : Nat)), .cl (.int w), .un, .un, .un, .un, .un] = .ok (.fr (.list (F.map encI))) [.le (Hnd.d s'), .un, .cl (.int (k : Nat)), .cl (.int w), .un, .un, .un, .un, .un] ∧ F.length ≤ 8 ∧ (∀ c ∈ F, Good c) ∧ s'.Ok n := by
  obtain ⟨r, s1, e1, r1, r2, w1⟩ := draw (h := s) (n := n + 81) hs (m := 9) (by decide) (by decide)
  have hr := rng1_of r1 (by omega)
  rw [rngD_map] at hr
  obtain ⟨zs, sub, s2, c1, q1, q2, w2⟩ := mLc_st (it := iFn rng1 (aCons (mCall g__law_draw [.mu, .pl] (aCons (mV 0) (aCons (mC (.int 9)) aNil))) aNil)) (tt := tYesM) (e := m__law_clauses_7) (v := 6) (ρ := [.le s.d, .un, .cl (.int (k : Nat)), .cl (.int w), .un, .un, .un, .un, .un]) (fun s : Hnd => [.le s.d, .un, .cl (.int (k : Nat)), .cl (.int w), .un, .un, .un, .un, .un]) (fun m s => s.Ok (n + 9 * m)) (fun (_ : Nat) c => Good c) (fun i : Nat => PyData.int (i : Nat)) encI (s := s1) (l := List.range r.toNat) (fun _ => rfl) (by simp -implicitDefEqProofs [e1, hr]) (by rw [List.length_range]; exact Nat.le_trans (show _ ≤ 9 by omega) (by decide)) (w1.mono (by rw [List.length_range]; omega)) fun x hx m s ws => by
    obtain ⟨c, s', e, oc, lc, w'⟩ := law_clause (h := s) (n := n + 9 * m) (k := k) (m := 3) (ws.mono (by omega)) (by omega) (by decide)
    rw [show ((3 : Nat) : Int) = 3 from rfl] at e
    refine ⟨s', w', .inl ⟨_, c, rfl, ?_, oc, fun x hx => by have := lc x hx; omega⟩⟩
    exact call_cl e _
  refine ⟨zs, s2, c1, ?_, each_mem q2 (fun _ _ g => g), w2⟩
  rw [each_len q2]
  have := q1.length_le
  rw [List.length_range] at this
  omega
theorem cl_second {s : Hnd} {n k : Nat} {w : Int} {F : List (List Int)} (hF : F.length ≤ 8) (hG : ∀ c ∈ F, Good c) (hs : s.Ok (n + 8)) : ∃ (F' : List (List Int)) (s' : Hnd), mLc (iSeqM (mV 1)) (tName 7) m__law_clauses_5 m__law_clauses_6 [7] [.le s.d, .ow (.list (F.map encI)), .cl (.int (k : Nat)), .cl (.int w), .un, .un, .un, .un, .un] = .ok (.fr (.list (F'.map encI))) [.le (Hnd.d s'), .cl (.list (F.map encI)), .cl (.int (k : Nat)), .cl (.int w), .un, .un, .un, .un, .un] ∧ F'.length ≤ 8 ∧ (∀ c ∈ F', Good c) ∧ s'.Ok n := by
  obtain ⟨zs, sub, s2, c1, q1, q2, w2⟩ := mLc_st (it := iSeqM (mV 1)) (tt := m__law_clauses_5) (e := m__law_clauses_6) (v := 7) (ρ := [.le s.d, .ow (.list (F.map encI)), .cl (.int (k : Nat)), .cl (.int w), .un, .un, .un, .un, .un]) (fun s : Hnd => [.le s.d, .cl (.list (F.map encI)), .cl (.int (k : Nat)), .cl (.int w), .un, .un, .un, .un, .un]) (fun m s => s.Ok (n + m)) (fun a c => a = c) encI encI (s := s) (l := F) (fun _ => rfl) (by simp -implicitDefEqProofs) (Nat.le_trans hF (by decide)) (hs.mono (by omega)) fun c hc m s ws => by
    obtain ⟨r, s', e, r1, r2, w'⟩ := draw (h := s) (n := n + m) ws (m := 6) (by decide) (by decide)
    by_cases lc : 0 < c.length
    · have fl := fLen_pos (c.map PyData.int)
      rw [List.length_map, decide_eq_true lc] at fl
      refine ⟨s, ws.mono (by omega), .inl ⟨[.le s.d, .cl (.list (F.map encI)), .cl (.int (k : Nat)), .cl (.int w), .un, .un, .un, .cl (encI c), .un], c, ?_, ?_, rfl⟩⟩
      · simp -implicitDefEqProofs [m__law_clauses_5, lc]
      · simp -implicitDefEqProofs [m__law_clauses_6]
    · refine ⟨s', w', ?_⟩
      by_cases rz : r = 0
      · left
        refine ⟨[.le s'.d, .cl (.list (F.map encI)), .cl (.int (k : Nat)), .cl (.int w), .un, .un, .un, .cl (encI c), .un], c, ?_, ?_, rfl⟩
        · simp -implicitDefEqProofs [m__law_clauses_5, lc, e, rz]
        · simp -implicitDefEqProofs [m__law_clauses_6]
      · right
        simp -implicitDefEqProofs [m__law_clauses_5, lc, e, rz]
  refine ⟨zs, s2, c1, ?_, fun c hc => ?_, w2⟩
  · rw [each_len q2]; exact Nat.le_trans q1.length_le hF
  · obtain ⟨a, ha, e⟩ := each_memL q2 c hc
    exact e ▸ hG a (q1.subset ha)
end Lb
set_option maxHeartbeats 2000000
namespace Lb
open PySem PySem.Spec L2 Vx
theorem cl_third {s : Hnd} {n : Nat} {w : Int} {f A s4 s5 s7 s8 : Sl} {L : List (List Int)} (h4 : s4 = .ow (.list (L.map encI)) ∨ s4 = .cl (.list (L.map encI))) (h7 : wipable (some s7) = true) (hL : L.length ≤ 8) (hG : ∀ o ∈ L, o.length ≤ 100) (hs : s.Ok (n + 8)) : ∃ (F : List (List Int)) (s' : Hnd), mLc (iSeqM (mV 4)) (tName 7) m__law_clauses_1 m__law_clauses_2 [7] [.le s.d, f, A, .cl (.int w), s4, s5, .un, s7, s8] = .ok (.fr (.list (F.map encI))) [.le (Hnd.d s'), f, A, .cl (.int w), .cl (.list (L.map encI)), s5, .un, s7, s8] ∧ F.length ≤ 8 ∧ (∀ c ∈ F, ∃ o ∈ L, c = sAbs o) ∧ s'.Ok n := by
  have hi : iSeqM (mV 4) [.le s.d, f, A, .cl (.int w), s4, s5, .un, s7, s8] = .ok (L.map encI) [.le s.d, f, A, .cl (.int w), .cl (.list (L.map encI)), s5, .un, s7, s8] := by
    rcases h4 with e | e <;> subst e <;> simp -implicitDefEqProofs
  obtain ⟨zs, sub, s2, c1, q1, q2, w2⟩ := mLc_stx (it := iSeqM (mV 4)) (tt := m__law_clauses_1) (e := m__law_clauses_2) (v := 7) (ρ := [.le s.d, f, A, .cl (.int w), s4, s5, .un, s7, s8]) (fun s : Hnd => [.le s.d, f, A, .cl (.int w), .cl (.list (L.map encI)), s5, .un, s7, s8]) (fun m s => s.Ok (n + m)) (fun a c => c = sAbs a) encI encI (s := s) (l := L) h7 (fun _ => rfl) hi (Nat.le_trans hL (by decide)) (hs.mono (by omega)) fun c hc m s ws => by
    obtain ⟨r, s', e, r1, r2, w'⟩ := draw (h := s) (n := n + m) ws (m := 8) (by decide) (by decide)
    have so := srt_abs (l := c) (Nat.le_trans (hG c hc) (by decide)) (d := encI c) rfl
    have step : ∀ d : D, mK m__law_clauses_2 [.le d, f, A, .cl (.int w), .cl (.list (L.map encI)), s5, .un, .cl (encI c), s8] = .ok (encI (sAbs c)) [.le d, f, A, .cl (.int w), .cl (.list (L.map encI)), s5, .un, .cl (encI c), s8] := fun d => by
      generalize sAbs c = t at so ⊢
      simp -implicitDefEqProofs [m__law_clauses_2, so]
    by_cases lw : 2 < w
    · refine ⟨s, ws.mono (by omega), .inl ⟨[.le s.d, f, A, .cl (.int w), .cl (.list (L.map encI)), s5, .un, .cl (encI c), s8], sAbs c, ?_, step _, rfl⟩⟩
      simp -implicitDefEqProofs [m__law_clauses_1, lw]
    · refine ⟨s', w', ?_⟩
      by_cases rz : 0 < r
      · left
        refine ⟨[.le s'.d, f, A, .cl (.int w), .cl (.list (L.map encI)), s5, .un, .cl (encI c), s8], sAbs c, ?_, step _, rfl⟩
        simp -implicitDefEqProofs [m__law_clauses_1, lw, e, rz]
      · right
        simp -implicitDefEqProofs [m__law_clauses_1, lw, e, rz]
  refine ⟨zs, s2, c1, ?_, fun c hc => ?_, w2⟩
  · rw [each_len q2]; exact Nat.le_trans q1.length_le hL
  · obtain ⟨a, ha, e⟩ := each_memL q2 c hc
    exact ⟨a, q1.subset ha, e⟩
theorem perm_enc {es : List D} {l : List (List Int)} (h : es.Perm (l.map encI)) : ∃ t : List (List Int), es = t.map encI ∧ t.Perm l := by
  let u : D → List Int := fun d => match d with | .tuple ds => ds.map fun d => (match d with | .int i => i | _ => 0) | _ => []
  have ue : ∀ c, u (encI c) = c := fun c => by
    show (c.map PyData.int).map _ = c
    rw [List.map_map]
    induction c with
    | nil => rfl
    | cons a c ih => rw [List.map_cons, ih]; rfl
  refine ⟨es.map u, ?_, ?_⟩
  · rw [List.map_map]
    have : ∀ d ∈ es, (encI ∘ u) d = d := fun d hd => by
      obtain ⟨i, _, rfl⟩ := List.mem_map.mp (h.mem_iff.mp hd)
      show encI (u (encI i)) = _
      rw [ue]
    rw [List.map_congr_left this, List.map_id']
  · have := h.map u
    rw [List.map_map] at this
    have e : l.map (u ∘ encI) = l := by
      have : ∀ i ∈ l, (u ∘ encI) i = i := fun c _ => ue c
      rw [List.map_congr_left this, List.map_id']
    rwa [e] at this
theorem cl_ret {g1 g2 : List D → FR} {s d1 d2 : D} {r : Int} {F t : List (List Int)} {A w s4 s5 s7 s8 : Sl} (e1 : g1 [s, .int 2] = .ok false (.int r) [d1]) (h0 : 0 ≤ r) (hz : F.length ≤ 20) (e2 : g2 [d1, .list ((F ++ F.take r.toNat).map encI)] = .ok true (.list (t.map encI)) [d2]) :
    mB (f1 fTuple) (aCons (mCall g2 [.mu, .pl] (aCons (mV 0) (aCons (m2 fAdd (mV 1) (mSl fSl (mV 1) bNo (bAt (mCall g1 [.mu, .pl] (aCons (mV 0) (aCons (mC (.int 2)) aNil)))))) aNil))) aNil) [.le s, .ow (.list (F.map encI)), A, w, s4, s5, .un, s7, s8] = .ok (.val (encC t)) [.le d2, .ow (.list (F.map encI)), A, w, s4, s5, .un, s7, s8] := by
  have ct := cut_toI (F.map encI) h0
  rw [← List.map_take] at ct
  have hz2 : F.length + (F.take r.toNat).length ≤ sizeLine := by
    rw [List.length_take]; exact Nat.le_trans (show _ ≤ 40 by omega) (by decide)
  rw [List.map_append] at e2
  generalize F.take r.toNat = F2 at *
  simp -implicitDefEqProofs [e1, ct, hz2, e2]
end Lb
set_option maxHeartbeats 2000000
namespace Lb
open PySem PySem.Spec L2 Vx
theorem cl_tg {g : List D → FR} {d d1 d2 : D} {r q : Int} (e1 : g [d, .int 4] = .ok false (.int r) [d1]) (e2 : g [d1, .int 5] = .ok false (.int q) [d2]) :
    sTg (Vx.tTup (tsCons (tName 2) (tsCons (tName 3) tsNil))) (mTup (kCons (m2 fAdd (mC (.int 1)) (mCall g [.mu, .pl] (aCons (mV 0) (aCons (mC (.int 4)) aNil)))) (kCons (mCall g [.mu, .pl] (aCons (mV 0) (aCons (mC (.int 5)) aNil))) kNil))) [.le d, .un, .un, .un, .un, .un, .un, .un, .un] = .ok .nx [.le d2, .un, .cl (.int (1 + r)), .cl (.int q), .un, .un, .un, .un, .un] := by
  simp -implicitDefEqProofs [e1, e2, two_size]
theorem cl_mix {g : List D → FR} {d d1 : D} {k : Nat} {t : List Int} {f w : Sl} (hk : k ≤ 4) (e : g [d, .list ((upto k).map .int)] = .ok true (.list (t.map .int)) [d1]) :
    iSeqM (mSl fSl (mCall g [.mu, .pl] (aCons (mV 0) (aCons (mRg (mC (.int 1)) (m2 fAdd (mV 2) (mC (.int 1)))) aNil))) bNo (bAt (mC (.int 3)))) [.le d, f, .cl (.int (k : Nat)), w, .ow (.list [.tuple []]), .un, .un, .un, .un] = .ok ((t.take 3).map .int) [.le d1, f, .cl (.int (k : Nat)), w, .ow (.list [.tuple []]), .un, .un, .un, .un] := by
  have rg := okRg_of (i := (k : Int) + 1) (by omega) (by omega)
  have ru := rngD_upto k
  have ct := cut_toI (t.map PyData.int) (i := 3) (by decide)
  rw [← List.map_take, show (3 : Int).toNat = 3 from rfl] at ct
  generalize t.take 3 = t3 at *
  simp -implicitDefEqProofs [rg, ru, okRg_1, e, ct]
theorem cl_cat {F F3 : List (List Int)} {M : M Op} {d d1 : D} {A w s4 s4' s5 s7 s8 : Sl} (hz : F.length ≤ 8) (h3 : F3.length ≤ 8) (e : M [.le d, .ow (.list (F.map encI)), A, w, s4, s5, .un, s7, s8] = .ok (.fr (.list (F3.map encI))) [.le d1, .ow (.list (F.map encI)), A, w, s4', s5, .un, s7, s8]) :
    sSet 1 (m2 fAdd (mSl fSl (mV 1) bNo (bAt (mC (.int 3)))) M) [.le d, .ow (.list (F.map encI)), A, w, s4, s5, .un, s7, s8] = .ok .nx [.le d1, .ow (.list ((F.take 3 ++ F3).map encI)), A, w, s4', s5, .un, s7, s8] := by
  have ct := cut_toI (F.map encI) (i := 3) (by decide)
  rw [← List.map_take, show (3 : Int).toNat = 3 from rfl] at ct
  have hz2 : (F.take 3).length + F3.length ≤ sizeLine := by
    rw [List.length_take]; exact Nat.le_trans (show _ ≤ 40 by omega) (by decide)
  rw [List.map_append]
  generalize F.take 3 = F2 at *
  simp -implicitDefEqProofs [ct, hz2, e]
theorem seq_nx {a b : M Fl} {ρ ρ1 : Ev} (h : a ρ = .ok .nx ρ1) : sSeq a b ρ = b ρ1 := by
  unfold sSeq; rw [h]; rfl
theorem set_fr {i : Nat} {m : M Op} {ρ ρ1 : Ev} {d : D} (h : m ρ = .ok (.fr d) ρ1) (hf : free ρ1[i]? = true) : sSet i m ρ = .ok .nx (ρ1.set i (.ow d)) := by
  unfold sSet; rw [h]
  show oNx (if free ρ1[i]? = true then some (ρ1.set i (.ow d)) else none) = _
  rw [if_pos hf]; rfl
theorem if_t {c : M Bool} {a b : M Fl} {ρ ρ1 : Ev} (h : c ρ = .ok true ρ1) : sIf c a b ρ = a ρ1 := by
  rw [ev_sIf, h]; rfl
theorem if_f {c : M Bool} {a b : M Fl} {ρ ρ1 : Ev} (h : c ρ = .ok false ρ1) : sIf c a b ρ = b ρ1 := by
  rw [ev_sIf, h]; rfl
theorem for_nx {it : M (List D)} {t : Vx.Tg} {b : M Fl} {ρ ρ1 : Ev} {ds : List D} (h : it ρ = .ok ds ρ1) : sFor it t b ρ = forI t b ds ρ1 := by
  unfold sFor; rw [h]; rfl
theorem ret_of {m : M Op} {ρ ρ1 : Ev} {x : Op} (h : m ρ = .ok x ρ1) : sRet m ρ = .ok (.rt x) ρ1 := by
  unfold sRet; rw [h]; rfl
theorem cl_way {d f A s4 s5 s6 s7 s8 : Sl} (w : Int) : mT (m2 fGt (mV 3) (mC (.int 1))) [d, f, A, .cl (.int w), s4, s5, s6, s7, s8] = .ok (decide (1 < w)) [d, f, A, .cl (.int w), s4, s5, s6, s7, s8] := by
  simp -implicitDefEqProofs
theorem law_clauses {h : Hnd} {n : Nat} (w : h.Ok (n + 200)) : ∃ (cs : List (List Int)) (h' : Hnd), g__law_clauses [h.d] = .ok false (encC cs) [h'.d] ∧ cs.length ≤ 22 ∧ (∀ c ∈ cs, Good c) ∧ h'.Ok n := by
  obtain ⟨r, h1, e1, r1, r2, w1⟩ := draw (h := h) (n := n + 199) (w.mono (by omega)) (m := 4) (by decide) (by decide)
  obtain ⟨q, h2, e2, q1, q2, w2⟩ := draw (h := h1) (n := n + 198) (w1.mono (by omega)) (m := 5) (by decide) (by decide)
  have tg := cl_tg e1 e2
  obtain ⟨k, hk⟩ : ∃ k : Nat, 1 + r = (k : Int) := ⟨(1 + r).toNat, by omega⟩
  rw [hk] at tg
  obtain ⟨F, h3, c3, l3, g3, w3⟩ := cl_first (s := h2) (n := n + 100) (k := k) (w := q) (w2.mono (by omega)) (by omega)
  obtain ⟨F', h4, c4, l4, g4, w4⟩ := cl_second (s := h3) (n := n + 90) (k := k) (w := q) l3 g3 (w3.mono (by omega))
  -- what the return does
  have ret : ∀ (F : List (List Int)) (s : Hnd) (s4 s5 s7 s8 : Sl), F.length ≤ 11 → (∀ c ∈ F, Good c) → s.Ok (n + 40) → ∃ (cs : List (List Int)) (h' : Hnd), (∃ ρ2, sRet (mB (f1 fTuple) (aCons (mCall g__law_mixed [.mu, .pl] (aCons (mV 0) (aCons (m2 fAdd (mV 1) (mSl fSl (mV 1) bNo (bAt (mCall g__law_draw [.mu, .pl] (aCons (mV 0) (aCons (mC (.int 2)) aNil)))))) aNil))) aNil)) [.le s.d, .ow (.list (F.map encI)), .cl (.int (k : Nat)), .cl (.int q), s4, s5, .un, s7, s8] = .ok (.rt (.val (encC cs))) (.le h'.d :: ρ2)) ∧ cs.length ≤ 22 ∧ (∀ c ∈ cs, Good c) ∧ h'.Ok n := fun F s s4 s5 s7 s8 hz hg ws => by
    obtain ⟨a, s1, e, a1, a2, ws1⟩ := draw (h := s) (n := n + 39) (ws.mono (by omega)) (m := 2) (by decide) (by decide)
    have lz : (F ++ F.take a.toNat).length ≤ 22 := by rw [List.length_append, List.length_take]; omega
    obtain ⟨es, s2, e', p, ws2⟩ := mixed (h := s1) (n := n) (ds := (F ++ F.take a.toNat).map encI) (ws1.mono (by rw [List.length_map]; omega)) (by rw [List.length_map]; omega)
    obtain ⟨t, rfl, pt⟩ := perm_enc p
    exact ⟨t, s2, ⟨_, ret_of (cl_ret e a1 (by omega) e')⟩, by rw [pt.length_eq]; exact lz, fun c hc => by
      rcases List.mem_append.mp (pt.mem_iff.mp hc) with m | m
      · exact hg c m
      · exact hg c (List.mem_of_mem_take m), ws2⟩
  have fin : (∃ (cs : List (List Int)) (h' : Hnd), (∃ ρ2, m__law_clauses [.le h.d, .un, .un, .un, .un, .un, .un, .un, .un] = .ok (.rt (.val (encC cs))) (.le h'.d :: ρ2)) ∧ cs.length ≤ 22 ∧ (∀ c ∈ cs, Good c) ∧ h'.Ok n) := by
    unfold m__law_clauses
    have c3' := set_fr (i := 1) c3 rfl
    have c4' := set_fr (i := 1) c4 rfl
    simp only [List.set_cons_succ, List.set_cons_zero] at c3' c4'
    rw [seq_nx tg, seq_nx c3', seq_nx c4']
    have cw := cl_way (d := .le h4.d) (f := .ow (.list (F'.map encI))) (A := .cl (.int (k : Nat))) (s4 := .un) (s5 := .un) (s6 := .un) (s7 := .un) (s8 := .un) q
    by_cases hw : 1 < q
    · rw [decide_eq_true hw] at cw
      obtain ⟨es, h5, e5, p5, w5⟩ := mixed (h := h4) (n := n + 80) (ds := (upto k).map .int) (w4.mono (by rw [List.length_map, upto_len]; omega)) (by rw [List.length_map, upto_len]; omega)
      obtain ⟨t, rfl, pt⟩ := perm_ints p5
      have mx := cl_mix (f := .ow (.list (F'.map encI))) (w := .cl (.int q)) (k := k) (by omega) e5
      have h3l : (t.take 3).length ≤ 3 := by rw [List.length_take]; omega
      have nd : (t.take 3).Pairwise fun a b => a ≠ b := (pt.symm.nodup (upto_nodup k)).sublist (List.take_sublist _ _)
      have ml : ∀ a ∈ t.take 3, 1 ≤ a ∧ a ≤ 4 := fun a ha => by
        have := upto_mem.mp (pt.mem_iff.mp (List.mem_of_mem_take ha)); omega
      obtain ⟨s4, s5, s7, s8, L, q4, q7, ql, qo, ef⟩ := some_for (d := h5.d) (w := .int q) (f := .ow (.list (F'.map encI))) (A := .cl (.int (k : Nat))) (t.take 3) h3l nd fun a ha => by have := ml a ha; omega
      obtain ⟨F3, h6, c6, l6, g6, w6⟩ := cl_third (s := h5) (n := n + 60) (w := q) (f := .ow (.list (F'.map encI))) (A := .cl (.int (k : Nat))) (s5 := s5) (s8 := s8) q4 q7 ql (fun o ho => by
        have := congrArg List.length (qo o ho)
        rw [List.length_map] at this; omega) (w5.mono (by omega))
      have cc := cl_cat l4 l6 c6
      have g7 : ∀ c ∈ F3, Good c := fun c hc => by
        obtain ⟨o, ho, rfl⟩ := g6 c hc
        have ea := qo o ho
        have dd : o.Pairwise fun a b => absI a ≠ absI b := List.pairwise_map.mp (ea ▸ nd)
        obtain ⟨u, p⟩ := sAbs_up dd
        have m4 : ∀ x ∈ sAbs o, 1 ≤ absI x ∧ absI x ≤ 4 := fun x hx => ml _ (ea ▸ List.mem_map.mpr ⟨x, p.mem_iff.mp hx, rfl⟩)
        refine ⟨⟨fun x hx => ?_, u⟩, fun x hx => (m4 x hx).2⟩
        have := m4 x hx
        unfold absI at this
        split at this <;> omega
      have b4 : sSet 4 (mLst (kCons (mTup kNil) kNil)) [.le h4.d, .ow (.list (F'.map encI)), .cl (.int (k : Nat)), .cl (.int q), .un, .un, .un, .un, .un] = .ok .nx [.le h4.d, .ow (.list (F'.map encI)), .cl (.int (k : Nat)), .cl (.int q), .ow (.list [.tuple []]), .un, .un, .un, .un] := by
        simp -implicitDefEqProofs [one_size]
      have br := (if_t (b := sNx) cw).trans ((seq_nx b4).trans ((seq_nx ((for_nx mx).trans ef)).trans cc))
      rw [seq_nx br]
      exact ret _ h6 _ _ _ _ (by rw [List.length_append, List.length_take]; omega) (fun c hc => by
        rcases List.mem_append.mp hc with m | m
        · exact g4 c (List.mem_of_mem_take m)
        · exact g7 c m) (w6.mono (by omega))
    · rw [decide_eq_false hw] at cw
      rw [seq_nx (show sIf _ _ sNx _ = .ok .nx _ from if_f cw)]
      exact ret F' h4 _ _ _ _ (by omega) g4 (w4.mono (by omega))
  obtain ⟨cs, h', ⟨ρ2, eb⟩, z1, z2, z3⟩ := fin
  refine ⟨cs, h', ?_, z1, z2, z3⟩
  generalize h.d = hd at eb
  unfold g__law_clauses
  generalize m__law_clauses = M at eb
  simp -implicitDefEqProofs [runD, eb]
end Lb
set_option maxHeartbeats 2000000
namespace Lb
open PySem PySem.Spec L2 Vx
def m__law_hand_1 : M Op :=
    (mB (f1 fAbs) (aCons (mB (f1 fInt) (aCons (mV 2) aNil)) aNil))
def m__law_hand : M Fl :=
    (sSeq (sSet 1 (mLc (iSeqM (mSl fSl (mV 0) bNo (bAt (mC (.int 63))))) (tName 2) tYesM m__law_hand_1 [2]))
    (sRet (mLst (kCons (mV 1) (kCons (mC (.int 0)) (kCons (mC (.int 0)) (kCons (m2 fAdd (mC (.int 971)) (m2 fMul (mC (.int 61)) (mB (f1 fLen) (aCons (mV 1) aNil)))) (kCons (mC (.int 0)) kNil))))))))
def g__law_hand : List D → FR := runD [.pl] 2 m__law_hand
def hand0 (ns : List Int) : Hnd := ⟨ns.map absI, 0, 0, 971 + 61 * (ns.length : Nat), 0⟩
theorem five_size : 5 ≤ sizeLine := by decide
theorem law_hand {ns : List Int} (hz : ns.length ≤ 63) : g__law_hand [.list (ns.map .int)] = .ok true (hand0 ns).d [] := by
  have ct : cutD (ns.map PyData.int) none (some 63) = ns.map .int := by
    have := cut_toI (ns.map PyData.int) (i := 63) (by decide)
    rw [this, List.take_of_length_le (by rw [List.length_map]; exact hz)]
  have c1 : mLc (iSeqM (mSl fSl (mV 0) bNo (bAt (mC (.int 63))))) (tName 2) tYesM m__law_hand_1 [2] [.bo (.list (ns.map .int)), .un, .un] = .ok (.fr (.list (ns.map fun i => .int (absI i)))) [.bo (.list (ns.map .int)), .un, .un] :=
    mLc_encM .int _ (by simp -implicitDefEqProofs [ct]) rfl (Nat.le_trans hz (by decide)) fun x _ => by simp -implicitDefEqProofs [m__law_hand_1]
  have hm : (ns.map fun i => PyData.int (absI i)) = (ns.map absI).map .int := by rw [List.map_map]; rfl
  rw [hm] at c1
  have hl : (ns.map absI).length = ns.length := List.length_map _
  have mu := fMul_int (i := 61) (j := (ns.length : Nat)) (okMul_of (a := 8) (b := 8) (by decide) (by omega) (by decide))
  unfold hand0 Hnd.d
  dsimp only
  generalize ns.map absI = cs at c1 hl ⊢
  simp -implicitDefEqProofs [g__law_hand, runD, m__law_hand, c1, hl, mu, five_size]
theorem hand_ok {ns : List Int} (hz : ns.length ≤ 63) (hb : ∀ z ∈ ns, z.natAbs < 2 ^ 1048576) {n : Nat} (hn : n ≤ 1000000) : (hand0 ns).Ok n := by
  refine ⟨fun c hc => ?_, Int.le_refl 0, ?_, Int.le_refl 0, ?_⟩
  · obtain ⟨i, hi, rfl⟩ := List.mem_map.mp hc
    have := hb i hi
    have e : (absI i).natAbs = i.natAbs := by unfold absI; split <;> omega
    exact ⟨by unfold absI; split <;> omega, by rw [e]; exact this⟩
  · show 0 ≤ (971 + 61 * (ns.length : Nat) : Int) ∧ (971 + 61 * (ns.length : Nat) : Int) < 4294967296
    omega
  · show (0 : Int) + n ≤ 18446744073709551616
    omega
end Lb
set_option maxHeartbeats 0
namespace Wk
open PySem PySem.Spec L2 Vx Lb
def top (i : Nat) : Stmt := PySem.Challenge.pw_followways_k08_whole_clauses_worlds_reso.main.body.getD i (.Pass ⟨0, 0, 0, 0⟩)
abbrev s_is_integer : Stmt := top 1
abbrev s_is_within : Stmt := top 2
abbrev s_two_to : Stmt := top 3
abbrev s_bits_of : Stmt := top 4
abbrev s_is_world : Stmt := top 12
abbrev s_is_clause : Stmt := top 16
abbrev s_is_clauses : Stmt := top 17
abbrev s_check_clauses : Stmt := top 18
abbrev s_many_in : Stmt := top 19
abbrev s_holds_in : Stmt := top 20
abbrev s_first_broken : Stmt := top 21
abbrev s_broken : Stmt := top 22
abbrev s_models_of : Stmt := top 23
abbrev s_joined : Stmt := top 24
abbrev s_resolved : Stmt := top 25
abbrev s_resolvent : Stmt := top 26
abbrev s__law_hand : Stmt := top 28
abbrev s__law_draw : Stmt := top 29
abbrev s__law_any : Stmt := top 30
abbrev s__law_mixed : Stmt := top 31
abbrev s__law_same : Stmt := top 32
abbrev s__law_is_integer : Stmt := top 33
abbrev s__law_clause : Stmt := top 34
abbrev s__law_clauses : Stmt := top 35
abbrev s__law_many : Stmt := top 36
abbrev s__law_atoms_of : Stmt := top 37
abbrev s__law_worlds : Stmt := top 38
abbrev s__law_breaks : Stmt := top 39
abbrev s__law_models : Stmt := top 40
abbrev s__law_joined : Stmt := top 41
abbrev s__law_resolved : Stmt := top 42
abbrev s__law_deep : Stmt := top 43
abbrev s__law_is_clause : Stmt := top 44
abbrev s__law_near : Stmt := top 45
abbrev s__law_are_judged : Stmt := top 46
abbrev s_law : Stmt := top 47
section
variable {P : Program} {w : World} {K : PySem.W.Frag} {mg : Str → Option Value} {base : Heap} {fa : Nat → Addr} {fdd : Nat → FuncData} {cn : Str → Addr} {tb : List (Addr × Str)}
/-- what the head tells -/
structure Hs (K : PySem.W.Frag) (mg : Str → Option Value) (base : Heap) (fa : Nat → Addr) (fdd : Nat → FuncData) (tb : List (Addr × Str)) : Prop where
  F0 : FunD K "is_integer" "is_integer" (defArgs s_is_integer) (defBody s_is_integer) (defScope s_is_integer) [] [] (fa 0) (fdd 0)
  G0 : mg "is_integer" = some (.ref (fa 0))
  F1 : FunD K "is_within" "is_within" (defArgs s_is_within) (defBody s_is_within) (defScope s_is_within) [] [] (fa 1) (fdd 1)
  G1 : mg "is_within" = some (.ref (fa 1))
  F2 : FunD K "two_to" "two_to" (defArgs s_two_to) (defBody s_two_to) (defScope s_two_to) [] [] (fa 2) (fdd 2)
  G2 : mg "two_to" = some (.ref (fa 2))
  F3 : FunD K "bits_of" "bits_of" (defArgs s_bits_of) (defBody s_bits_of) (defScope s_bits_of) [] [] (fa 3) (fdd 3)
  G3 : mg "bits_of" = some (.ref (fa 3))
  F4 : FunD K "is_world" "is_world" (defArgs s_is_world) (defBody s_is_world) (defScope s_is_world) [] [] (fa 4) (fdd 4)
  G4 : mg "is_world" = some (.ref (fa 4))
  F5 : FunD K "is_clause" "is_clause" (defArgs s_is_clause) (defBody s_is_clause) (defScope s_is_clause) [] [] (fa 5) (fdd 5)
  G5 : mg "is_clause" = some (.ref (fa 5))
  F6 : FunD K "is_clauses" "is_clauses" (defArgs s_is_clauses) (defBody s_is_clauses) (defScope s_is_clauses) [] [] (fa 6) (fdd 6)
  G6 : mg "is_clauses" = some (.ref (fa 6))
  F7 : FunD K "check_clauses" "check_clauses" (defArgs s_check_clauses) (defBody s_check_clauses) (defScope s_check_clauses) [] [] (fa 7) (fdd 7)
  G7 : mg "check_clauses" = some (.ref (fa 7))
  F8 : FunD K "many_in" "many_in" (defArgs s_many_in) (defBody s_many_in) (defScope s_many_in) [] [] (fa 8) (fdd 8)
  G8 : mg "many_in" = some (.ref (fa 8))
  F9 : FunD K "holds_in" "holds_in" (defArgs s_holds_in) (defBody s_holds_in) (defScope s_holds_in) [] [] (fa 9) (fdd 9)
  G9 : mg "holds_in" = some (.ref (fa 9))
  F10 : FunD K "first_broken" "first_broken" (defArgs s_first_broken) (defBody s_first_broken) (defScope s_first_broken) [] [] (fa 10) (fdd 10)
  G10 : mg "first_broken" = some (.ref (fa 10))
  F11 : FunD K "broken" "broken" (defArgs s_broken) (defBody s_broken) (defScope s_broken) [] [] (fa 11) (fdd 11)
  G11 : mg "broken" = some (.ref (fa 11))
  F12 : FunD K "models_of" "models_of" (defArgs s_models_of) (defBody s_models_of) (defScope s_models_of) [] [] (fa 12) (fdd 12)
  G12 : mg "models_of" = some (.ref (fa 12))
  F13 : FunD K "joined" "joined" (defArgs s_joined) (defBody s_joined) (defScope s_joined) [] [] (fa 13) (fdd 13)
  G13 : mg "joined" = some (.ref (fa 13))
  T13 : ∃ c P, (fdd 13).code = .ref c ∧ LamX.TabB base mg c P ∧ (P, ("joined.<locals>.<lambda>" : Str)) ∈ tb ∧ ∀ p ∈ tb, p.1 = P → p.2 = ("joined.<locals>.<lambda>" : Str)
  F14 : FunD K "resolved" "resolved" (defArgs s_resolved) (defBody s_resolved) (defScope s_resolved) [] [] (fa 14) (fdd 14)
  G14 : mg "resolved" = some (.ref (fa 14))
  F15 : FunD K "resolvent" "resolvent" (defArgs s_resolvent) (defBody s_resolvent) (defScope s_resolvent) [] [] (fa 15) (fdd 15)
  G15 : mg "resolvent" = some (.ref (fa 15))
  F16 : FunD K "_law_hand" "_law_hand" (defArgs s__law_hand) (defBody s__law_hand) (defScope s__law_hand) [] [] (fa 16) (fdd 16)
  G16 : mg "_law_hand" = some (.ref (fa 16))
  F17 : FunD K "_law_draw" "_law_draw" (defArgs s__law_draw) (defBody s__law_draw) (defScope s__law_draw) [] [] (fa 17) (fdd 17)
  G17 : mg "_law_draw" = some (.ref (fa 17))
  F18 : FunD K "_law_any" "_law_any" (defArgs s__law_any) (defBody s__law_any) (defScope s__law_any) [] [] (fa 18) (fdd 18)
  G18 : mg "_law_any" = some (.ref (fa 18))
  F19 : FunD K "_law_mixed" "_law_mixed" (defArgs s__law_mixed) (defBody s__law_mixed) (defScope s__law_mixed) [] [] (fa 19) (fdd 19)
  G19 : mg "_law_mixed" = some (.ref (fa 19))
  F20 : FunD K "_law_same" "_law_same" (defArgs s__law_same) (defBody s__law_same) (defScope s__law_same) [] [] (fa 20) (fdd 20)
  G20 : mg "_law_same" = some (.ref (fa 20))
  F21 : FunD K "_law_is_integer" "_law_is_integer" (defArgs s__law_is_integer) (defBody s__law_is_integer) (defScope s__law_is_integer) [] [] (fa 21) (fdd 21)
  G21 : mg "_law_is_integer" = some (.ref (fa 21))
  F22 : FunD K "_law_clause" "_law_clause" (defArgs s__law_clause) (defBody s__law_clause) (defScope s__law_clause) [] [] (fa 22) (fdd 22)
  G22 : mg "_law_clause" = some (.ref (fa 22))
  F23 : FunD K "_law_clauses" "_law_clauses" (defArgs s__law_clauses) (defBody s__law_clauses) (defScope s__law_clauses) [] [] (fa 23) (fdd 23)
  G23 : mg "_law_clauses" = some (.ref (fa 23))
  F24 : FunD K "_law_many" "_law_many" (defArgs s__law_many) (defBody s__law_many) (defScope s__law_many) [] [] (fa 24) (fdd 24)
  G24 : mg "_law_many" = some (.ref (fa 24))
  F25 : FunD K "_law_atoms_of" "_law_atoms_of" (defArgs s__law_atoms_of) (defBody s__law_atoms_of) (defScope s__law_atoms_of) [] [] (fa 25) (fdd 25)
  G25 : mg "_law_atoms_of" = some (.ref (fa 25))
  F26 : FunD K "_law_worlds" "_law_worlds" (defArgs s__law_worlds) (defBody s__law_worlds) (defScope s__law_worlds) [] [] (fa 26) (fdd 26)
  G26 : mg "_law_worlds" = some (.ref (fa 26))
  F27 : FunD K "_law_breaks" "_law_breaks" (defArgs s__law_breaks) (defBody s__law_breaks) (defScope s__law_breaks) [] [] (fa 27) (fdd 27)
  G27 : mg "_law_breaks" = some (.ref (fa 27))
  F28 : FunD K "_law_models" "_law_models" (defArgs s__law_models) (defBody s__law_models) (defScope s__law_models) [] [] (fa 28) (fdd 28)
  G28 : mg "_law_models" = some (.ref (fa 28))
  F29 : FunD K "_law_joined" "_law_joined" (defArgs s__law_joined) (defBody s__law_joined) (defScope s__law_joined) [] [] (fa 29) (fdd 29)
  G29 : mg "_law_joined" = some (.ref (fa 29))
  F30 : FunD K "_law_resolved" "_law_resolved" (defArgs s__law_resolved) (defBody s__law_resolved) (defScope s__law_resolved) [] [] (fa 30) (fdd 30)
  G30 : mg "_law_resolved" = some (.ref (fa 30))
  F31 : FunD K "_law_deep" "_law_deep" (defArgs s__law_deep) (defBody s__law_deep) (defScope s__law_deep) [] [] (fa 31) (fdd 31)
  G31 : mg "_law_deep" = some (.ref (fa 31))
  F32 : FunD K "_law_is_clause" "_law_is_clause" (defArgs s__law_is_clause) (defBody s__law_is_clause) (defScope s__law_is_clause) [] [] (fa 32) (fdd 32)
  G32 : mg "_law_is_clause" = some (.ref (fa 32))
  F33 : FunD K "_law_near" "_law_near" (defArgs s__law_near) (defBody s__law_near) (defScope s__law_near) [] [] (fa 33) (fdd 33)
  G33 : mg "_law_near" = some (.ref (fa 33))
  F34 : FunD K "_law_are_judged" "_law_are_judged" (defArgs s__law_are_judged) (defBody s__law_are_judged) (defScope s__law_are_judged) [] [] (fa 34) (fdd 34)
  G34 : mg "_law_are_judged" = some (.ref (fa 34))
  F35 : FunD K "law" "law" (defArgs s_law) (defBody s_law) (defScope s_law) [] [] (fa 35) (fdd 35)
  G35 : mg "law" = some (.ref (fa 35))
  B_ValueError : mg "ValueError" = none
  B_abs : mg "abs" = none
  B_all : mg "all" = none
  B_any : mg "any" = none
  B_bool : mg "bool" = none
  B_enumerate : mg "enumerate" = none
  B_int : mg "int" = none
  B_isinstance : mg "isinstance" = none
  B_len : mg "len" = none
  B_list : mg "list" = none
  B_max : mg "max" = none
  B_range : mg "range" = none
  B_repr : mg "repr" = none
  B_sorted : mg "sorted" = none
  B_super : mg "super" = none
  B_tuple : mg "tuple" = none
  B_zip : mg "zip" = none
  I_MOST_ATOMS : ∃ t, mg "MOST_ATOMS" = some (.int 12 t)
  I_MOST_CLAUSES : ∃ t, mg "MOST_CLAUSES" = some (.int 80 t)
theorem sc_is_integer : FnScope ["thing"] ["thing"] (defScope s_is_integer) := ⟨rfl, rfl, rfl, by decide +kernel, rfl, by decide +kernel, by decide +kernel⟩
theorem b_is_integer (h : Hs K mg base fa fdd tb) : Binds K (fdd 0) ["thing"] [] := h.F0.bindsN fun _ _ _ _ _ _ us hl => match us, hl with
  | [_], _ => rfl
theorem ok_is_integer (h : Hs K mg base fa fdd tb) : FnG P w K mg base 1 (fa 0) (fdd 0) ["thing"] (spV K cn tb [.pl] g_is_integer) :=
  fn_okG h.F0 sc_is_integer rfl (by decide) fun cdv A outer s H E F hcd hr hcn htb tk => by
    subst hcn htb
    have sc := sc_is_integer
    exact (qss_one (qs_ret (qe_and (qe_isi isi_int rfl h.B_isinstance rfl h.B_int rfl (qv 0)) (qe_one (qe_not (qe_isi isi_bool rfl h.B_isinstance rfl h.B_bool rfl (qv 0)))))))
theorem sc_two_to : FnScope ["exponent"] ["exponent"] (defScope s_two_to) := ⟨rfl, rfl, rfl, by decide +kernel, rfl, by decide +kernel, by decide +kernel⟩
theorem b_two_to (h : Hs K mg base fa fdd tb) : Binds K (fdd 2) ["exponent"] [] := h.F2.bindsN fun _ _ _ _ _ _ us hl => match us, hl with
  | [_], _ => rfl
theorem ok_two_to (h : Hs K mg base fa fdd tb) : FnG P w K mg base 1 (fa 2) (fdd 2) ["exponent"] (spV K cn tb [.pl] g_two_to) :=
  fn_okG h.F2 sc_two_to rfl (by decide) fun cdv A outer s H E F hcd hr hcn htb tk => by
    subst hcn htb
    have sc := sc_two_to
    exact (qss_one (qs_ret (qe_op op_shl p_shl qe_int (qv 0))))
theorem sc_bits_of : FnScope ["number", "many", "found", "turn"] ["number", "many"] (defScope s_bits_of) := ⟨rfl, rfl, rfl, by decide +kernel, rfl, by decide +kernel, by decide +kernel⟩
theorem b_bits_of (h : Hs K mg base fa fdd tb) : Binds K (fdd 3) ["number", "many"] [] := h.F3.bindsN fun _ _ _ _ _ _ us hl => match us, hl with
  | [_, _], _ => rfl
theorem ok_bits_of (h : Hs K mg base fa fdd tb) : FnG P w K mg base 1 (fa 3) (fdd 3) ["number", "many"] (spV K cn tb [.pl, .pl] g_bits_of) :=
  fn_okG h.F3 sc_bits_of rfl (by decide) fun cdv A outer s H E F hcd hr hcn htb tk => by
    subst hcn htb
    have sc := sc_bits_of
    exact (qss_cons (qs_set (i := 2) sc.nd rfl loc_of (qe_lst qk_nil))
    (qss_cons (qs_for (passes_of rfl) rfl (qi_range1 rfl h.B_range (qa_cons (qv 1) qa_nil)) (qg_name sc.nd rfl loc_of) (qss_cons (qs_expr (qe_app (i := 2) rfl (by first | exact Or.inl rfl | exact Or.inr (Or.inl rfl) | exact Or.inr (Or.inr rfl)) (qe_op op_mod p_mod (qv 0) qe_int)))
    (qss_one (qs_set (i := 0) sc.nd rfl loc_of (qe_op op_fdivW p_div (qv 0) qe_int)))))
    (qss_one (qs_ret (qe_callTy call_tuple_of p_tuple rfl h.B_tuple rfl (qa_cons (qe_rev (qv 2)) qa_nil))))))
theorem sc_many_in : FnScope ["clauses", "clause"] ["clauses"] (defScope s_many_in) := ⟨rfl, rfl, rfl, by decide +kernel, rfl, by decide +kernel, by decide +kernel⟩
theorem b_many_in (h : Hs K mg base fa fdd tb) : Binds K (fdd 8) ["clauses"] [] := h.F8.bindsN fun _ _ _ _ _ _ us hl => match us, hl with
  | [_], _ => rfl
theorem ok_many_in (h : Hs K mg base fa fdd tb) : FnG P w K mg base 1 (fa 8) (fdd 8) ["clauses"] (spV K cn tb [.pl] g_many_in) :=
  fn_okG h.F8 sc_many_in rfl (by decide) fun cdv A outer s H E F hcd hr hcn htb tk => by
    subst hcn htb
    have sc := sc_many_in
    exact (qss_one (qs_ret (qe_callB (c_max rfl) p_max rfl h.B_max rfl (qa_cons (qe_op o_add p_add (qe_lst (qk_cons qe_int qk_nil)) (qe_lc (own := [("clause", 1)]) rfl sc.nd (qi_seq (qv 0)) (blkOk_by (by kernel_rfl)) (by decide) (fun _ _ _ _ _ => (qg_name sc.nd rfl loc_of)) (fun _ _ _ _ _ => (qts_one (qt_cmp op_gt p_gt (qe_callB c_len p_len rfl h.B_len rfl (qa_cons (qv 1) qa_nil)) qe_int (nomark _)))) (fun _ _ _ _ _ => (qe_callB call_abs p_abs rfl h.B_abs rfl (qa_cons (qe_ix ix_seq p_ix (qv 1) (qe_un un_neg p_neg qe_int) (fun _ _ => rfl)) qa_nil))))) qa_nil))))
theorem sc_holds_in : FnScope ["clause", "world", "one"] ["clause", "world"] (defScope s_holds_in) := ⟨rfl, rfl, rfl, by decide +kernel, rfl, by decide +kernel, by decide +kernel⟩
theorem b_holds_in (h : Hs K mg base fa fdd tb) : Binds K (fdd 9) ["clause", "world"] [] := h.F9.bindsN fun _ _ _ _ _ _ us hl => match us, hl with
  | [_, _], _ => rfl
theorem ok_holds_in (h : Hs K mg base fa fdd tb) : FnG P w K mg base 1 (fa 9) (fdd 9) ["clause", "world"] (spV K cn tb [.pl, .pl] g_holds_in) :=
  fn_okG h.F9 sc_holds_in rfl (by decide) fun cdv A outer s H E F hcd hr hcn htb tk => by
    subst hcn htb
    have sc := sc_holds_in
    exact (qss_one (qs_ret (qe_callB (cr_any rfl) p_any rfl h.B_any rfl (qa_cons (qe_lc (own := [("one", 2)]) rfl sc.nd (qi_seq (qv 0)) (blkOk_by (by kernel_rfl)) (by decide) (fun _ _ _ _ _ => (qg_name sc.nd rfl loc_of)) (fun _ _ _ _ _ => qts_nil) (fun _ _ _ _ _ => (qe_cmp (op_eqD hr.units) p_eq (qe_ix ix_seq p_ix (qv 1) (qe_op op_sub p_sub (qe_callB call_abs p_abs rfl h.B_abs rfl (qa_cons (qv 2) qa_nil)) qe_int) (fun _ _ => rfl)) (qe_callTy call_int1 p_int rfl h.B_int rfl (qa_cons (qe_cmp op_gt p_gt (qv 2) qe_int (nomark _)) qa_nil)) (nomark _)))) qa_nil))))
theorem sc__law_hand : FnScope ["script", "cells", "cell"] ["script"] (defScope s__law_hand) := ⟨rfl, rfl, rfl, by decide +kernel, rfl, by decide +kernel, by decide +kernel⟩
theorem b__law_hand (h : Hs K mg base fa fdd tb) : Binds K (fdd 16) ["script"] [] := h.F16.bindsN fun _ _ _ _ _ _ us hl => match us, hl with
  | [_], _ => rfl
def m__law_hand_1 : M Op :=
    (mB (f1 fAbs) (aCons (mB (f1 fInt) (aCons (mV 2) aNil)) aNil))
def m__law_hand : M Fl :=
    (sSeq (sSet 1 (mLc (iSeqM (mSl fSl (mV 0) bNo (bAt (mC (.int 63))))) (tName 2) tYesM m__law_hand_1 [2]))
    (sRet (mLst (kCons (mV 1) (kCons (mC (.int 0)) (kCons (mC (.int 0)) (kCons (m2 fAdd (mC (.int 967)) (m2 fMul (mC (.int 61)) (mB (f1 fLen) (aCons (mV 1) aNil)))) (kCons (mC (.int 0)) kNil))))))))
def g__law_hand : List D → FR := runD [.pl] 2 m__law_hand
theorem ok__law_hand (h : Hs K mg base fa fdd tb) : FnG P w K mg base 1 (fa 16) (fdd 16) ["script"] (spV K cn tb [.pl] g__law_hand) :=
  fn_okG h.F16 sc__law_hand rfl (by decide) fun cdv A outer s H E F hcd hr hcn htb tk => by
    subst hcn htb
    have sc := sc__law_hand
    exact (qss_cons (qs_setLc (i := 1) (own := [("cell", 2)]) rfl sc.nd rfl rfl rfl (qi_seq (qe_sl s_sl p_sl (qv 0) qo_none (qo_some qe_int))) (blkOk_by (by kernel_rfl)) (by decide) (fun _ _ _ _ _ => (qg_name sc.nd rfl loc_of)) (fun _ _ _ _ _ => qts_nil) (fun _ _ _ _ _ => (qe_callB call_abs p_abs rfl h.B_abs rfl (qa_cons (qe_callTy call_int1 p_int rfl h.B_int rfl (qa_cons (qv 2) qa_nil)) qa_nil))))
    (qss_one (qs_ret (qe_lst (qk_cons (qv 1) (qk_cons qe_int (qk_cons qe_int (qk_cons (qe_op o_add p_add qe_int (qe_op op_mulX p_mul qe_int (qe_callB c_len p_len rfl h.B_len rfl (qa_cons (qv 1) qa_nil)))) (qk_cons qe_int qk_nil)))))))))
theorem sc__law_draw : FnScope ["hand", "many", "number", "cell", "digit"] ["hand", "many"] (defScope s__law_draw) := ⟨rfl, rfl, rfl, by decide +kernel, rfl, by decide +kernel, by decide +kernel⟩
theorem b__law_draw (h : Hs K mg base fa fdd tb) : Binds K (fdd 17) ["hand", "many"] [] := h.F17.bindsN fun _ _ _ _ _ _ us hl => match us, hl with
  | [_, _], _ => rfl
theorem ok__law_draw (h : Hs K mg base fa fdd tb) : FnG P w K mg base 1 (fa 17) (fdd 17) ["hand", "many"] (spV K cn tb [.mu, .pl] g__law_draw) :=
  fn_okG h.F17 sc__law_draw rfl (by decide) fun cdv A outer s H E F hcd hr hcn htb tk => by
    subst hcn htb
    have sc := sc__law_draw
    exact (qss_cons (qs_if (qt_w (qw_and (qt_cmp (op_eqD hr.units) p_eq (qe_ix ix_seq p_ix (qv 0) qe_int (fun _ _ => rfl)) qe_int (nomark _)) (qw_and1 (qt_cmp op_lt p_lt (qe_ix ix_seq p_ix (qv 0) qe_int (fun _ _ => rfl)) (qe_callB c_len p_len rfl h.B_len rfl (qa_cons (qe_ix ix_seq p_ix (qv 0) qe_int (fun _ _ => rfl)) qa_nil)) (nomark _))))) (qss_cons (qs_set (i := 3) sc.nd rfl loc_of (qe_ix ix_seq p_ix (qe_ix ix_seq p_ix (qv 0) qe_int (fun _ _ => rfl)) (qe_ix ix_seq p_ix (qv 0) qe_int (fun _ _ => rfl)) (fun _ _ => rfl)))
    (qss_cons (qs_setIx (i := 0) rfl (by first | exact Or.inl rfl | exact Or.inr (Or.inl rfl) | exact Or.inr (Or.inr rfl)) (qe_op o_add p_add (qe_ix ix_seq p_ix (qv 0) qe_int (fun _ _ => rfl)) qe_int) qe_int)
    (qss_cons (qs_setIx (i := 0) rfl (by first | exact Or.inl rfl | exact Or.inr (Or.inl rfl) | exact Or.inr (Or.inr rfl)) (qe_op op_mod p_mod (qe_callTy call_int1 p_int rfl h.B_int rfl (qa_cons (qe_op o_add p_add (qe_op o_add p_add (qe_op op_mulX p_mul (qe_ix ix_seq p_ix (qv 0) qe_int (fun _ _ => rfl)) qe_int) (qe_op op_mulX p_mul (qv 3) qe_int)) qe_int) qa_nil)) qe_int) qe_int)
    (qss_one (qs_if (qt_cmp op_ge p_ge (qv 3) (qe_op op_pow p_pow qe_int qe_int) (nomark _)) (qss_one (qs_setIx (i := 0) rfl (by first | exact Or.inl rfl | exact Or.inr (Or.inl rfl) | exact Or.inr (Or.inr rfl)) (qv 3) qe_int)) qss_nil))))) qss_nil)
    (qss_cons (qs_if (qt_cmp op_gt p_gt (qe_ix ix_seq p_ix (qv 0) qe_int (fun _ _ => rfl)) qe_int (nomark _)) (qss_cons (qs_set (i := 4) sc.nd rfl loc_of (qe_op op_mod p_mod (qe_callTy call_int1 p_int rfl h.B_int rfl (qa_cons (qe_ix ix_seq p_ix (qv 0) qe_int (fun _ _ => rfl)) qa_nil)) (qv 1)))
    (qss_cons (qs_setIx (i := 0) rfl (by first | exact Or.inl rfl | exact Or.inr (Or.inl rfl) | exact Or.inr (Or.inr rfl)) (qe_op op_fdivW p_div (qe_ix ix_seq p_ix (qv 0) qe_int (fun _ _ => rfl)) (qv 1)) qe_int)
    (qss_one (qs_ret (qv 4))))) qss_nil)
    (qss_cons (qs_setIx (i := 0) rfl (by first | exact Or.inl rfl | exact Or.inr (Or.inl rfl) | exact Or.inr (Or.inr rfl)) (qe_op o_add p_add (qe_ix ix_seq p_ix (qv 0) qe_int (fun _ _ => rfl)) qe_int) qe_int)
    (qss_cons (qs_set (i := 2) sc.nd rfl loc_of (qe_op op_mod p_mod (qe_callTy call_int1 p_int rfl h.B_int rfl (qa_cons (qe_op op_mulX p_mul (qe_callTy call_int1 p_int rfl h.B_int rfl (qa_cons (qe_op o_add p_add (qe_ix ix_seq p_ix (qv 0) qe_int (fun _ _ => rfl)) (qe_op op_mulX p_mul qe_int (qe_ix ix_seq p_ix (qv 0) qe_int (fun _ _ => rfl)))) qa_nil)) qe_int) qa_nil)) qe_int))
    (qss_cons (qs_set (i := 2) sc.nd rfl loc_of (qe_op op_mod p_mod (qe_callTy call_int1 p_int rfl h.B_int rfl (qa_cons (qe_op op_mulX p_mul (qv 2) (qe_op o_add p_add (qe_op op_fdivW p_div (qv 2) qe_int) qe_int)) qa_nil)) qe_int))
    (qss_cons (qs_set (i := 2) sc.nd rfl loc_of (qe_op op_mod p_mod (qe_callTy call_int1 p_int rfl h.B_int rfl (qa_cons (qe_op op_mulX p_mul (qv 2) (qe_op o_add p_add (qe_op op_fdivW p_div (qv 2) qe_int) qe_int)) qa_nil)) qe_int))
    (qss_one (qs_ret (qe_op op_mod p_mod (qe_callTy call_int1 p_int rfl h.B_int rfl (qa_cons (qe_op op_fdivW p_div (qv 2) qe_int) qa_nil)) (qv 1))))))))))
theorem sc__law_is_integer : FnScope ["thing"] ["thing"] (defScope s__law_is_integer) := ⟨rfl, rfl, rfl, by decide +kernel, rfl, by decide +kernel, by decide +kernel⟩
theorem b__law_is_integer (h : Hs K mg base fa fdd tb) : Binds K (fdd 21) ["thing"] [] := h.F21.bindsN fun _ _ _ _ _ _ us hl => match us, hl with
  | [_], _ => rfl
def m__law_is_integer : M Fl :=
    (sRet (mAndV (mT (m1 (fIsi ["int", "bool"]) (mV 0))) (mNotV (mT (m1 (fIsi ["bool"]) (mV 0))))))
def g__law_is_integer : List D → FR := runD [.pl] 0 m__law_is_integer
theorem ok__law_is_integer (h : Hs K mg base fa fdd tb) : FnG P w K mg base 1 (fa 21) (fdd 21) ["thing"] (spV K cn tb [.pl] g__law_is_integer) :=
  fn_okG h.F21 sc__law_is_integer rfl (by decide) fun cdv A outer s H E F hcd hr hcn htb tk => by
    subst hcn htb
    have sc := sc__law_is_integer
    exact (qss_one (qs_ret (qe_and (qe_isi isi_int rfl h.B_isinstance rfl h.B_int rfl (qv 0)) (qe_one (qe_not (qe_isi isi_bool rfl h.B_isinstance rfl h.B_bool rfl (qv 0)))))))
theorem sc__law_atoms_of : FnScope ["lot_row", "found", "clause", "one"] ["lot_row"] (defScope s__law_atoms_of) := ⟨rfl, rfl, rfl, by decide +kernel, rfl, by decide +kernel, by decide +kernel⟩
theorem b__law_atoms_of (h : Hs K mg base fa fdd tb) : Binds K (fdd 25) ["lot_row"] [] := h.F25.bindsN fun _ _ _ _ _ _ us hl => match us, hl with
  | [_], _ => rfl
theorem ok__law_atoms_of (h : Hs K mg base fa fdd tb) : FnG P w K mg base 1 (fa 25) (fdd 25) ["lot_row"] (spV K cn tb [.pl] g__law_atoms_of) :=
  fn_okG h.F25 sc__law_atoms_of rfl (by decide) fun cdv A outer s H E F hcd hr hcn htb tk => by
    subst hcn htb
    have sc := sc__law_atoms_of
    exact (qss_cons (qs_set (i := 1) sc.nd rfl loc_of (qe_lst qk_nil))
    (qss_cons (qs_for (passes_of rfl) rfl (qi_seq (qv 0)) (qg_name sc.nd rfl loc_of) (qss_one (qs_expr (qe_ext (i := 1) rfl (by first | exact Or.inl rfl | exact Or.inr (Or.inl rfl) | exact Or.inr (Or.inr rfl)) (qe_lc (own := [("one", 3)]) rfl sc.nd (qi_seq (qv 2)) (blkOk_by (by kernel_rfl)) (by decide) (fun _ _ _ _ _ => (qg_name sc.nd rfl loc_of)) (fun _ _ _ _ _ => qts_nil) (fun _ _ _ _ _ => (qe_callB call_abs p_abs rfl h.B_abs rfl (qa_cons (qv 3) qa_nil))))))))
    (qss_one (qs_ret (qv 1)))))
theorem sc__law_worlds : FnScope ["many", "found", "lap", "longer", "world"] ["many"] (defScope s__law_worlds) := ⟨rfl, rfl, rfl, by decide +kernel, rfl, by decide +kernel, by decide +kernel⟩
theorem b__law_worlds (h : Hs K mg base fa fdd tb) : Binds K (fdd 26) ["many"] [] := h.F26.bindsN fun _ _ _ _ _ _ us hl => match us, hl with
  | [_], _ => rfl
theorem ok__law_worlds (h : Hs K mg base fa fdd tb) : FnG P w K mg base 1 (fa 26) (fdd 26) ["many"] (spV K cn tb [.pl] g__law_worlds) :=
  fn_okG h.F26 sc__law_worlds rfl (by decide) fun cdv A outer s H E F hcd hr hcn htb tk => by
    subst hcn htb
    have sc := sc__law_worlds
    exact (qss_cons (qs_set (i := 1) sc.nd rfl loc_of (qe_lst (qk_cons (qe_tup qk_nil) qk_nil)))
    (qss_cons (qs_for (passes_of rfl) rfl (qi_range1 rfl h.B_range (qa_cons (qv 0) qa_nil)) (qg_name sc.nd rfl loc_of) (qss_cons (qs_set (i := 3) sc.nd rfl loc_of (qe_lst qk_nil))
    (qss_cons (qs_for (passes_of rfl) rfl (qi_seq (qv 1)) (qg_name sc.nd rfl loc_of) (qss_one (qs_expr (qe_ext (i := 3) rfl (by first | exact Or.inl rfl | exact Or.inr (Or.inl rfl) | exact Or.inr (Or.inr rfl)) (qe_lst (qk_cons (qe_op o_add p_add (qv 4) (qe_tup (qk_cons qe_int qk_nil))) (qk_cons (qe_op o_add p_add (qv 4) (qe_tup (qk_cons qe_int qk_nil))) qk_nil)))))))
    (qss_one (qs_set (i := 1) sc.nd rfl loc_of (qv 3))))))
    (qss_one (qs_ret (qv 1)))))
theorem sc__law_breaks : FnScope ["clause", "world", "one"] ["clause", "world"] (defScope s__law_breaks) := ⟨rfl, rfl, rfl, by decide +kernel, rfl, by decide +kernel, by decide +kernel⟩
theorem b__law_breaks (h : Hs K mg base fa fdd tb) : Binds K (fdd 27) ["clause", "world"] [] := h.F27.bindsN fun _ _ _ _ _ _ us hl => match us, hl with
  | [_, _], _ => rfl
theorem ok__law_breaks (h : Hs K mg base fa fdd tb) : FnG P w K mg base 1 (fa 27) (fdd 27) ["clause", "world"] (spV K cn tb [.pl, .pl] g__law_breaks) :=
  fn_okG h.F27 sc__law_breaks rfl (by decide) fun cdv A outer s H E F hcd hr hcn htb tk => by
    subst hcn htb
    have sc := sc__law_breaks
    exact (qss_one (qs_ret (qe_not (qe_callB (cr_any rfl) p_any rfl h.B_any rfl (qa_cons (qe_lc (own := [("one", 2)]) rfl sc.nd (qi_seq (qv 0)) (blkOk_by (by kernel_rfl)) (by decide) (fun _ _ _ _ _ => (qg_name sc.nd rfl loc_of)) (fun _ _ _ _ _ => qts_nil) (fun _ _ _ _ _ => (qe_cmp (op_eqD hr.units) p_eq (qe_ix ix_seq p_ix (qv 1) (qe_op op_sub p_sub (qe_callB call_abs p_abs rfl h.B_abs rfl (qa_cons (qv 2) qa_nil)) qe_int) (fun _ _ => rfl)) (qe_callTy call_int1 p_int rfl h.B_int rfl (qa_cons (qe_cmp op_gt p_gt (qv 2) qe_int (nomark _)) qa_nil)) (nomark _)))) qa_nil)))))
theorem sc__law_joined : FnScope ["signs_here", "found", "one"] ["signs_here"] (defScope s__law_joined) := ⟨rfl, rfl, rfl, by decide +kernel, rfl, by decide +kernel, by decide +kernel⟩
theorem b__law_joined (h : Hs K mg base fa fdd tb) : Binds K (fdd 29) ["signs_here"] [] := h.F29.bindsN fun _ _ _ _ _ _ us hl => match us, hl with
  | [_], _ => rfl
theorem ok__law_joined (h : Hs K mg base fa fdd tb) : FnG P w K mg base 1 (fa 29) (fdd 29) ["signs_here"] (spV K cn tb [.pl] g__law_joined) :=
  fn_okG h.F29 sc__law_joined rfl (by decide) fun cdv A outer s H E F hcd hr hcn htb tk => by
    subst hcn htb
    have sc := sc__law_joined
    exact (qss_cons (qs_set (i := 1) sc.nd rfl loc_of (qe_lst qk_nil))
    (qss_cons (qs_for (passes_of rfl) rfl (qi_seq (qe_sortK rfl hr.units rfl h.B_sorted (qv 0) (ke_abs rfl h.B_abs))) (qg_name sc.nd rfl loc_of) (qss_cons (qs_if (qt_cmp (o_in (u65g hr)) p_in (qe_op op_sub p_sub qe_int (qv 2)) (qv 1) rfl) (qss_one (qs_ret qe_non)) qss_nil)
    (qss_one (qs_set (i := 1) sc.nd rfl loc_of (qe_op o_add p_add (qv 1) (qe_rep (qe_lst (qk_cons (qv 2) qk_nil)) (qe_callTy call_int1 p_int rfl h.B_int rfl (qa_cons (qe_cmp (o_notIn (u65g hr)) p_notIn (qv 2) (qv 1) rfl) qa_nil))))))))
    (qss_one (qs_ret (qe_callTy call_tuple_of p_tuple rfl h.B_tuple rfl (qa_cons (qv 1) qa_nil))))))
theorem sc_is_within : FnScope ["thing", "least", "most"] ["thing", "least", "most"] (defScope s_is_within) := ⟨rfl, rfl, rfl, by decide +kernel, rfl, by decide +kernel, by decide +kernel⟩
theorem b_is_within (h : Hs K mg base fa fdd tb) : Binds K (fdd 1) ["thing", "least", "most"] [] := h.F1.bindsN fun _ _ _ _ _ _ us hl => match us, hl with
  | [_, _, _], _ => rfl
theorem ok_is_within (h : Hs K mg base fa fdd tb) : FnG P w K mg base 2 (fa 1) (fdd 1) ["thing", "least", "most"] (spV K cn tb [.pl, .pl, .pl] g_is_within) :=
  fn_okG h.F1 sc_is_within rfl (by decide) fun cdv A outer s H E F hcd hr hcn htb tk => by
    subst hcn htb
    have sc := sc_is_within
    exact (qss_one (qs_ret (qe_and (qe_callG ((ok_is_integer h).mono (by decide)) hr rfl h.G0 h.F0.kp (b_is_integer h) tk (qa_cons (qv 0) qa_nil)) (qe_one (qe_chain op_le op_le p_le p_le (qv 1) (qv 0) (qv 2))))))
theorem sc_first_broken : FnScope ["clauses", "world", "at", "clause"] ["clauses", "world"] (defScope s_first_broken) := ⟨rfl, rfl, rfl, by decide +kernel, rfl, by decide +kernel, by decide +kernel⟩
theorem b_first_broken (h : Hs K mg base fa fdd tb) : Binds K (fdd 10) ["clauses", "world"] [] := h.F10.bindsN fun _ _ _ _ _ _ us hl => match us, hl with
  | [_, _], _ => rfl
theorem ok_first_broken (h : Hs K mg base fa fdd tb) : FnG P w K mg base 2 (fa 10) (fdd 10) ["clauses", "world"] (spV K cn tb [.pl, .pl] g_first_broken) :=
  fn_okG h.F10 sc_first_broken rfl (by decide) fun cdv A outer s H E F hcd hr hcn htb tk => by
    subst hcn htb
    have sc := sc_first_broken
    exact (qss_cons (qs_for (passes_of rfl) rfl (qi_enum rfl h.B_enumerate (qki_cons (qv 0) qki_nil)) (qg_tup rfl (qgs_cons (qg_name sc.nd rfl loc_of) (qgs_cons (qg_name sc.nd rfl loc_of) qgs_nil)) (ts_lenS (ts_lenS ts_len0))) (qss_one (qs_if (qt_not (qt_tru (qe_callG ((ok_holds_in h).mono (by decide)) hr rfl h.G9 h.F9.kp (b_holds_in h) tk (qa_cons (qv 3) (qa_cons (qv 1) qa_nil))))) (qss_one (qs_ret (qv 2))) qss_nil)))
    (qss_one (qs_ret qe_non)))
theorem sc_joined : FnScope ["literals", "told", "one", "other"] ["literals"] (defScope s_joined) := ⟨rfl, rfl, rfl, by decide +kernel, rfl, by decide +kernel, by decide +kernel⟩
theorem b_joined (h : Hs K mg base fa fdd tb) : Binds K (fdd 13) ["literals"] [] := h.F13.bindsN fun _ _ _ _ _ _ us hl => match us, hl with
  | [_], _ => rfl
theorem ok_joined (h : Hs K mg base fa fdd tb) : FnG P w K mg base 2 (fa 13) (fdd 13) ["literals"] (spV K cn tb [.pl] g_joined) :=
  fn_okG h.F13 sc_joined rfl (by decide) fun cdv A outer s H E F hcd hr hcn htb tk => by
    subst hcn htb
    have sc := sc_joined
    obtain ⟨c, Pt, hc1, hc2, hc3, hc4⟩ := h.T13
    exact (qss_cons (qs_set (i := 1) sc.nd rfl loc_of (qe_sortK rfl hr.units rfl h.B_sorted (qe_dc (own := [("one", 2)]) rfl sc.nd (qi_seq (qv 0)) (blkOk_by (by kernel_rfl)) (by decide) (fun _ _ _ _ _ => (qg_name sc.nd rfl loc_of)) (fun _ _ _ _ _ => qts_nil) (fun _ _ _ _ _ => (qv 2)) (fun _ _ _ _ _ => qe_bl)) (ke_absP hr.room h.B_abs ⟨hc2, hcd.trans hc1, hc3, hc4, rfl, by decide⟩ rfl rfl rfl (by decide) rfl rfl (fun _ _ _ _ => rfl))))
    (qss_cons (qs_if (qt_val (qe_callB (cr_any rfl) p_any rfl h.B_any rfl (qa_cons (qe_lc (own := [("one", 2), ("other", 3)]) rfl sc.nd (qi_zip rfl h.B_zip (qki_cons (qv 1) (qki_cons (qe_sl s_sl p_sl (qv 1) (qo_some qe_int) qo_none) qki_nil))) (blkOk_by (by kernel_rfl)) (by decide) (fun _ _ _ _ _ => (qg_tup rfl (qgs_cons (qg_name sc.nd rfl loc_of) (qgs_cons (qg_name sc.nd rfl loc_of) qgs_nil)) (ts_lenS (ts_lenS ts_len0)))) (fun _ _ _ _ _ => qts_nil) (fun _ _ _ _ _ => (qe_cmp (op_eqD hr.units) p_eq (qe_callB call_abs p_abs rfl h.B_abs rfl (qa_cons (qv 2) qa_nil)) (qe_callB call_abs p_abs rfl h.B_abs rfl (qa_cons (qv 3) qa_nil)) (nomark _)))) qa_nil))) (qss_one (qs_ret qe_non)) qss_nil)
    (qss_one (qs_ret (qe_callTy call_tuple_of p_tuple rfl h.B_tuple rfl (qa_cons (qv 1) qa_nil))))))
theorem sc__law_any : FnScope ["hand", "some"] ["hand", "some"] (defScope s__law_any) := ⟨rfl, rfl, rfl, by decide +kernel, rfl, by decide +kernel, by decide +kernel⟩
theorem b__law_any (h : Hs K mg base fa fdd tb) : Binds K (fdd 18) ["hand", "some"] [] := h.F18.bindsN fun _ _ _ _ _ _ us hl => match us, hl with
  | [_, _], _ => rfl
theorem ok__law_any (h : Hs K mg base fa fdd tb) : FnG P w K mg base 2 (fa 18) (fdd 18) ["hand", "some"] (spV K cn tb [.mu, .pl] g__law_any) :=
  fn_okG h.F18 sc__law_any rfl (by decide) fun cdv A outer s H E F hcd hr hcn htb tk => by
    subst hcn htb
    have sc := sc__law_any
    exact (qss_one (qs_ret (qe_ix ix_seq p_ix (qv 1) (qe_callG ((ok__law_draw h).mono (by decide)) hr rfl h.G17 h.F17.kp (b__law_draw h) tk (qa_cons (qv 0) (qa_cons (qe_callB c_len p_len rfl h.B_len rfl (qa_cons (qv 1) qa_nil)) qa_nil))) (fun _ _ => rfl))))
theorem sc__law_mixed : FnScope ["hand", "things", "pool", "found"] ["hand", "things"] (defScope s__law_mixed) := ⟨rfl, rfl, rfl, by decide +kernel, rfl, by decide +kernel, by decide +kernel⟩
theorem b__law_mixed (h : Hs K mg base fa fdd tb) : Binds K (fdd 19) ["hand", "things"] [] := h.F19.bindsN fun _ _ _ _ _ _ us hl => match us, hl with
  | [_, _], _ => rfl
theorem ok__law_mixed (h : Hs K mg base fa fdd tb) : FnG P w K mg base 2 (fa 19) (fdd 19) ["hand", "things"] (spV K cn tb [.mu, .pl] g__law_mixed) :=
  fn_okG h.F19 sc__law_mixed rfl (by decide) fun cdv A outer s H E F hcd hr hcn htb tk => by
    subst hcn htb
    have sc := sc__law_mixed
    exact (qss_cons (qs_par (i := 2) (j := 3) rfl sc.nd rfl rfl (by decide) rfl rfl (qe_callTy call_list_of p_list rfl h.B_list rfl (qa_cons (qv 1) qa_nil)) (qe_lst qk_nil) rfl)
    (qss_cons (qs_while 1000 (passes_of rfl) (qt_cmp op_gt p_gt (qe_callB c_len p_len rfl h.B_len rfl (qa_cons (qv 2) qa_nil)) qe_int (nomark _)) (qss_one (qs_expr (qe_app (i := 3) rfl (by first | exact Or.inl rfl | exact Or.inr (Or.inl rfl) | exact Or.inr (Or.inr rfl)) (qe_popAt (i := 2) rfl (by first | exact Or.inl rfl | exact Or.inr (Or.inl rfl) | exact Or.inr (Or.inr rfl)) (qe_callG ((ok__law_draw h).mono (by decide)) hr rfl h.G17 h.F17.kp (b__law_draw h) tk (qa_cons (qv 0) (qa_cons (qe_callB c_len p_len rfl h.B_len rfl (qa_cons (qv 2) qa_nil)) qa_nil))))))))
    (qss_one (qs_ret (qv 3)))))
theorem sc__law_many : FnScope ["lot_row"] ["lot_row"] (defScope s__law_many) := ⟨rfl, rfl, rfl, by decide +kernel, rfl, by decide +kernel, by decide +kernel⟩
theorem b__law_many (h : Hs K mg base fa fdd tb) : Binds K (fdd 24) ["lot_row"] [] := h.F24.bindsN fun _ _ _ _ _ _ us hl => match us, hl with
  | [_], _ => rfl
theorem ok__law_many (h : Hs K mg base fa fdd tb) : FnG P w K mg base 2 (fa 24) (fdd 24) ["lot_row"] (spV K cn tb [.pl] g__law_many) :=
  fn_okG h.F24 sc__law_many rfl (by decide) fun cdv A outer s H E F hcd hr hcn htb tk => by
    subst hcn htb
    have sc := sc__law_many
    exact (qss_one (qs_ret (qe_callB (c_max rfl) p_max rfl h.B_max rfl (qa_cons (qe_op o_add p_add (qe_lst (qk_cons qe_int qk_nil)) (qe_callG ((ok__law_atoms_of h).mono (by decide)) hr rfl h.G25 h.F25.kp (b__law_atoms_of h) tk (qa_cons (qv 0) qa_nil))) qa_nil))))
theorem sc__law_resolved : FnScope ["one", "other", "atom", "part"] ["one", "other", "atom"] (defScope s__law_resolved) := ⟨rfl, rfl, rfl, by decide +kernel, rfl, by decide +kernel, by decide +kernel⟩
theorem b__law_resolved (h : Hs K mg base fa fdd tb) : Binds K (fdd 30) ["one", "other", "atom"] [] := h.F30.bindsN fun _ _ _ _ _ _ us hl => match us, hl with
  | [_, _, _], _ => rfl
def m__law_resolved_1 : M Bool :=
    (mT (m2 fNe (mV 3) (mV 2)))
def m__law_resolved_2 : M Op :=
    (mV 3)
def m__law_resolved_3 : M Bool :=
    (mT (m2 fNe (mV 3) (m2 fSub (mC (.int 0)) (mV 2))))
def m__law_resolved_4 : M Op :=
    (mV 3)
def m__law_resolved : M Fl :=
    (sSeq (sIf (mOr (mT (m2 fNotIn (mV 2) (mV 0))) (mT (m2 fNotIn (m2 fSub (mC (.int 0)) (mV 2)) (mV 1)))) (sRet (mC .none)) sNx)
    (sRet (mCall g__law_joined [.pl] (aCons (m2 fAdd (mLc (iSeqM (mV 0)) (tName 3) m__law_resolved_1 m__law_resolved_2 [3]) (mLc (iSeqM (mV 1)) (tName 3) m__law_resolved_3 m__law_resolved_4 [3])) aNil))))
def g__law_resolved : List D → FR := runD [.pl, .pl, .pl] 1 m__law_resolved
theorem ok__law_resolved (h : Hs K mg base fa fdd tb) : FnG P w K mg base 2 (fa 30) (fdd 30) ["one", "other", "atom"] (spV K cn tb [.pl, .pl, .pl] g__law_resolved) :=
  fn_okG h.F30 sc__law_resolved rfl (by decide) fun cdv A outer s H E F hcd hr hcn htb tk => by
    subst hcn htb
    have sc := sc__law_resolved
    exact (qss_cons (qs_if (qt_w (qw_or (qt_cmp (o_notIn (u65g hr)) p_notIn (qv 2) (qv 0) rfl) (qw_or1 (qt_cmp (o_notIn (u65g hr)) p_notIn (qe_op op_sub p_sub qe_int (qv 2)) (qv 1) rfl)))) (qss_one (qs_ret qe_non)) qss_nil)
    (qss_one (qs_ret (qe_callG ((ok__law_joined h).mono (by decide)) hr rfl h.G29 h.F29.kp (b__law_joined h) tk (qa_cons (qe_op o_add p_add (qe_lc (own := [("part", 3)]) rfl sc.nd (qi_seq (qv 0)) (blkOk_by (by kernel_rfl)) (by decide) (fun _ _ _ _ _ => (qg_name sc.nd rfl loc_of)) (fun _ _ _ _ _ => (qts_one (qt_cmp (op_neD hr.units) p_ne (qv 3) (qv 2) (nomark _)))) (fun _ _ _ _ _ => (qv 3))) (qe_lc (own := [("part", 3)]) rfl sc.nd (qi_seq (qv 1)) (blkOk_by (by kernel_rfl)) (by decide) (fun _ _ _ _ _ => (qg_name sc.nd rfl loc_of)) (fun _ _ _ _ _ => (qts_one (qt_cmp (op_neD hr.units) p_ne (qv 3) (qe_op op_sub p_sub qe_int (qv 2)) (nomark _)))) (fun _ _ _ _ _ => (qv 3)))) qa_nil)))))
theorem sc__law_is_clause : FnScope ["thing", "one", "other"] ["thing"] (defScope s__law_is_clause) := ⟨rfl, rfl, rfl, by decide +kernel, rfl, by decide +kernel, by decide +kernel⟩
theorem b__law_is_clause (h : Hs K mg base fa fdd tb) : Binds K (fdd 32) ["thing"] [] := h.F32.bindsN fun _ _ _ _ _ _ us hl => match us, hl with
  | [_], _ => rfl
def m__law_is_clause_1 : M Op :=
    (m2 fLt (mB (f1 fAbs) (aCons (mV 1) aNil)) (mB (f1 fAbs) (aCons (mV 2) aNil)))
def m__law_is_clause_2 : M Op :=
    (mAndV (mT (m2 fNe (mV 1) (mC (.int 0)))) (m2 fLe (mB (f1 fAbs) (aCons (mV 1) aNil)) (mC (.int 12))))
def m__law_is_clause_3 : M Op :=
    (mCall g__law_is_integer [.pl] (aCons (mV 1) aNil))
def m__law_is_clause : M Fl :=
    (sSeq (sIf (mOr (mNot (mT (m1 (fIsi ["tuple"]) (mV 0)))) (mNot (mT (mB (f1 fAll) (aCons (mLc (iSeqM (mV 0)) (tName 1) tYesM m__law_is_clause_3 [1]) aNil))))) (sRet (mC (.bool false))) sNx)
    (sSeq (sIf (mNot (mT (mB (f1 fAll) (aCons (mLc (iSeqM (mV 0)) (tName 1) tYesM m__law_is_clause_2 [1]) aNil)))) (sRet (mC (.bool false))) sNx)
    (sRet (mB (f1 fAll) (aCons (mLc (iFnK zp (kiCons (mV 0) (kiCons (mSl fSl (mV 0) (bAt (mC (.int 1))) bNo) kiNil))) (tTup (tsCons (tName 1) (tsCons (tName 2) tsNil))) tYesM m__law_is_clause_1 [1, 2]) aNil)))))
def g__law_is_clause : List D → FR := runD [.pl] 2 m__law_is_clause
theorem ok__law_is_clause (h : Hs K mg base fa fdd tb) : FnG P w K mg base 2 (fa 32) (fdd 32) ["thing"] (spV K cn tb [.pl] g__law_is_clause) :=
  fn_okG h.F32 sc__law_is_clause rfl (by decide) fun cdv A outer s H E F hcd hr hcn htb tk => by
    subst hcn htb
    have sc := sc__law_is_clause
    exact (qss_cons (qs_if (qt_w (qw_or (qt_not (qt_val (qe_isi isi_tuple rfl h.B_isinstance rfl h.B_tuple rfl (qv 0)))) (qw_or1 (qt_not (qt_val (qe_callB (cr_all rfl) p_all rfl h.B_all rfl (qa_cons (qe_lc (own := [("one", 1)]) rfl sc.nd (qi_seq (qv 0)) (blkOk_by (by kernel_rfl)) (by decide) (fun _ _ _ _ _ => (qg_name sc.nd rfl loc_of)) (fun _ _ _ _ _ => qts_nil) (fun _ _ _ _ _ => (qe_callG ((ok__law_is_integer h).mono (by decide)) hr rfl h.G21 h.F21.kp (b__law_is_integer h) LamX.takes0 (qa_cons (qv 1) qa_nil)))) qa_nil))))))) (qss_one (qs_ret qe_bl)) qss_nil)
    (qss_cons (qs_if (qt_not (qt_val (qe_callB (cr_all rfl) p_all rfl h.B_all rfl (qa_cons (qe_lc (own := [("one", 1)]) rfl sc.nd (qi_seq (qv 0)) (blkOk_by (by kernel_rfl)) (by decide) (fun _ _ _ _ _ => (qg_name sc.nd rfl loc_of)) (fun _ _ _ _ _ => qts_nil) (fun _ _ _ _ _ => (qe_and (qe_cmp (op_neD hr.units) p_ne (qv 1) qe_int (nomark _)) (qe_one (qe_cmp op_le p_le (qe_callB call_abs p_abs rfl h.B_abs rfl (qa_cons (qv 1) qa_nil)) qe_int (nomark _)))))) qa_nil)))) (qss_one (qs_ret qe_bl)) qss_nil)
    (qss_one (qs_ret (qe_callB (cr_all rfl) p_all rfl h.B_all rfl (qa_cons (qe_lc (own := [("one", 1), ("other", 2)]) rfl sc.nd (qi_zip rfl h.B_zip (qki_cons (qv 0) (qki_cons (qe_sl s_sl p_sl (qv 0) (qo_some qe_int) qo_none) qki_nil))) (blkOk_by (by kernel_rfl)) (by decide) (fun _ _ _ _ _ => (qg_tup rfl (qgs_cons (qg_name sc.nd rfl loc_of) (qgs_cons (qg_name sc.nd rfl loc_of) qgs_nil)) (ts_lenS (ts_lenS ts_len0)))) (fun _ _ _ _ _ => qts_nil) (fun _ _ _ _ _ => (qe_cmp op_lt p_lt (qe_callB call_abs p_abs rfl h.B_abs rfl (qa_cons (qv 1) qa_nil)) (qe_callB call_abs p_abs rfl h.B_abs rfl (qa_cons (qv 2) qa_nil)) (nomark _)))) qa_nil))))))
theorem sc_is_world : FnScope ["thing", "many", "one"] ["thing", "many"] (defScope s_is_world) := ⟨rfl, rfl, rfl, by decide +kernel, rfl, by decide +kernel, by decide +kernel⟩
theorem b_is_world (h : Hs K mg base fa fdd tb) : Binds K (fdd 4) ["thing", "many"] [] := h.F4.bindsN fun _ _ _ _ _ _ us hl => match us, hl with
  | [_, _], _ => rfl
def m_is_world_1 : M Op :=
    (mCall g_is_within [.pl, .pl, .pl] (aCons (mV 2) (aCons (mC (.int 0)) (aCons (mC (.int 1)) aNil))))
def m_is_world : M Fl :=
    (sSeq (sIf (mOr (mNot (mT (m1 (fIsi ["tuple"]) (mV 0)))) (mT (m2 fNe (mB (f1 fLen) (aCons (mV 0) aNil)) (mV 1)))) (sRet (mC (.bool false))) sNx)
    (sRet (mB (f1 fAll) (aCons (mLc (iSeqM (mV 0)) (tName 2) tYesM m_is_world_1 [2]) aNil))))
def g_is_world : List D → FR := runD [.pl, .pl] 1 m_is_world
theorem ok_is_world (h : Hs K mg base fa fdd tb) : FnG P w K mg base 3 (fa 4) (fdd 4) ["thing", "many"] (spV K cn tb [.pl, .pl] g_is_world) :=
  fn_okG h.F4 sc_is_world rfl (by decide) fun cdv A outer s H E F hcd hr hcn htb tk => by
    subst hcn htb
    have sc := sc_is_world
    exact (qss_cons (qs_if (qt_w (qw_or (qt_not (qt_val (qe_isi isi_tuple rfl h.B_isinstance rfl h.B_tuple rfl (qv 0)))) (qw_or1 (qt_cmp (op_neD hr.units) p_ne (qe_callB c_len p_len rfl h.B_len rfl (qa_cons (qv 0) qa_nil)) (qv 1) (nomark _))))) (qss_one (qs_ret qe_bl)) qss_nil)
    (qss_one (qs_ret (qe_callB (cr_all rfl) p_all rfl h.B_all rfl (qa_cons (qe_lc (own := [("one", 2)]) rfl sc.nd (qi_seq (qv 0)) (blkOk_by (by kernel_rfl)) (by decide) (fun _ _ _ _ _ => (qg_name sc.nd rfl loc_of)) (fun _ _ _ _ _ => qts_nil) (fun _ _ _ _ _ => (qe_callG ((ok_is_within h).mono (by decide)) hr rfl h.G1 h.F1.kp (b_is_within h) LamX.takes0 (qa_cons (qv 2) (qa_cons qe_int (qa_cons qe_int qa_nil)))))) qa_nil)))))
theorem sc_is_clause : FnScope ["thing", "one", "other"] ["thing"] (defScope s_is_clause) := ⟨rfl, rfl, rfl, by decide +kernel, rfl, by decide +kernel, by decide +kernel⟩
theorem b_is_clause (h : Hs K mg base fa fdd tb) : Binds K (fdd 5) ["thing"] [] := h.F5.bindsN fun _ _ _ _ _ _ us hl => match us, hl with
  | [_], _ => rfl
theorem ok_is_clause (h : Hs K mg base fa fdd tb) : FnG P w K mg base 3 (fa 5) (fdd 5) ["thing"] (spV K cn tb [.pl] g_is_clause) :=
  fn_okG h.F5 sc_is_clause rfl (by decide) fun cdv A outer s H E F hcd hr hcn htb tk => by
    subst hcn htb
    have sc := sc_is_clause
    exact (qss_cons (qs_if (qt_w (qw_or (qt_not (qt_val (qe_isi isi_tuple rfl h.B_isinstance rfl h.B_tuple rfl (qv 0)))) (qw_or1 (qt_not (qt_val (qe_callB (cr_all rfl) p_all rfl h.B_all rfl (qa_cons (qe_lc (own := [("one", 1)]) rfl sc.nd (qi_seq (qv 0)) (blkOk_by (by kernel_rfl)) (by decide) (fun _ _ _ _ _ => (qg_name sc.nd rfl loc_of)) (fun _ _ _ _ _ => qts_nil) (fun _ _ _ _ _ => (qe_callG ((ok_is_within h).mono (by decide)) hr rfl h.G1 h.F1.kp (b_is_within h) LamX.takes0 (qa_cons (qv 1) (qa_cons (qe_un un_neg p_neg (qe_glI rfl h.I_MOST_ATOMS)) (qa_cons (qe_glI rfl h.I_MOST_ATOMS) qa_nil)))))) qa_nil))))))) (qss_one (qs_ret qe_bl)) qss_nil)
    (qss_cons (qs_if (qt_cmp (o_in (u65g hr)) p_in qe_int (qv 0) rfl) (qss_one (qs_ret qe_bl)) qss_nil)
    (qss_one (qs_ret (qe_callB (cr_all rfl) p_all rfl h.B_all rfl (qa_cons (qe_lc (own := [("one", 1), ("other", 2)]) rfl sc.nd (qi_zip rfl h.B_zip (qki_cons (qv 0) (qki_cons (qe_sl s_sl p_sl (qv 0) (qo_some qe_int) qo_none) qki_nil))) (blkOk_by (by kernel_rfl)) (by decide) (fun _ _ _ _ _ => (qg_tup rfl (qgs_cons (qg_name sc.nd rfl loc_of) (qgs_cons (qg_name sc.nd rfl loc_of) qgs_nil)) (ts_lenS (ts_lenS ts_len0)))) (fun _ _ _ _ _ => qts_nil) (fun _ _ _ _ _ => (qe_cmp op_lt p_lt (qe_callB call_abs p_abs rfl h.B_abs rfl (qa_cons (qv 1) qa_nil)) (qe_callB call_abs p_abs rfl h.B_abs rfl (qa_cons (qv 2) qa_nil)) (nomark _)))) qa_nil))))))
theorem sc_resolved : FnScope ["one", "other", "atom", "part"] ["one", "other", "atom"] (defScope s_resolved) := ⟨rfl, rfl, rfl, by decide +kernel, rfl, by decide +kernel, by decide +kernel⟩
theorem b_resolved (h : Hs K mg base fa fdd tb) : Binds K (fdd 14) ["one", "other", "atom"] [] := h.F14.bindsN fun _ _ _ _ _ _ us hl => match us, hl with
  | [_, _, _], _ => rfl
def m_resolved_1 : M Bool :=
    (mT (m2 fNe (mV 3) (mV 2)))
def m_resolved_2 : M Op :=
    (mV 3)
def m_resolved_3 : M Bool :=
    (mT (m2 fNe (mV 3) (m1 fNeg (mV 2))))
def m_resolved_4 : M Op :=
    (mV 3)
def m_resolved : M Fl :=
    (sSeq (sIf (mOr (mT (m2 fNotIn (mV 2) (mV 0))) (mT (m2 fNotIn (m1 fNeg (mV 2)) (mV 1)))) (sRet (mC .none)) sNx)
    (sRet (mCall g_joined [.pl] (aCons (m2 fAdd (mLc (iSeqM (mV 0)) (tName 3) m_resolved_1 m_resolved_2 [3]) (mLc (iSeqM (mV 1)) (tName 3) m_resolved_3 m_resolved_4 [3])) aNil))))
def g_resolved : List D → FR := runD [.pl, .pl, .pl] 1 m_resolved
theorem ok_resolved (h : Hs K mg base fa fdd tb) : FnG P w K mg base 3 (fa 14) (fdd 14) ["one", "other", "atom"] (spV K cn tb [.pl, .pl, .pl] g_resolved) :=
  fn_okG h.F14 sc_resolved rfl (by decide) fun cdv A outer s H E F hcd hr hcn htb tk => by
    subst hcn htb
    have sc := sc_resolved
    exact (qss_cons (qs_if (qt_w (qw_or (qt_cmp (o_notIn (u65g hr)) p_notIn (qv 2) (qv 0) rfl) (qw_or1 (qt_cmp (o_notIn (u65g hr)) p_notIn (qe_un un_neg p_neg (qv 2)) (qv 1) rfl)))) (qss_one (qs_ret qe_non)) qss_nil)
    (qss_one (qs_ret (qe_callG ((ok_joined h).mono (by decide)) hr rfl h.G13 h.F13.kp (b_joined h) tk (qa_cons (qe_op o_add p_add (qe_lc (own := [("part", 3)]) rfl sc.nd (qi_seq (qv 0)) (blkOk_by (by kernel_rfl)) (by decide) (fun _ _ _ _ _ => (qg_name sc.nd rfl loc_of)) (fun _ _ _ _ _ => (qts_one (qt_cmp (op_neD hr.units) p_ne (qv 3) (qv 2) (nomark _)))) (fun _ _ _ _ _ => (qv 3))) (qe_lc (own := [("part", 3)]) rfl sc.nd (qi_seq (qv 1)) (blkOk_by (by kernel_rfl)) (by decide) (fun _ _ _ _ _ => (qg_name sc.nd rfl loc_of)) (fun _ _ _ _ _ => (qts_one (qt_cmp (op_neD hr.units) p_ne (qv 3) (qe_un un_neg p_neg (qv 2)) (nomark _)))) (fun _ _ _ _ _ => (qv 3)))) qa_nil)))))
theorem sc__law_clause : FnScope ["hand", "atoms_here", "most", "some", "atom"] ["hand", "atoms_here", "most"] (defScope s__law_clause) := ⟨rfl, rfl, rfl, by decide +kernel, rfl, by decide +kernel, by decide +kernel⟩
theorem b__law_clause (h : Hs K mg base fa fdd tb) : Binds K (fdd 22) ["hand", "atoms_here", "most"] [] := h.F22.bindsN fun _ _ _ _ _ _ us hl => match us, hl with
  | [_, _, _], _ => rfl
theorem ok__law_clause (h : Hs K mg base fa fdd tb) : FnG P w K mg base 3 (fa 22) (fdd 22) ["hand", "atoms_here", "most"] (spV K cn tb [.mu, .pl, .pl] g__law_clause) :=
  fn_okG h.F22 sc__law_clause rfl (by decide) fun cdv A outer s H E F hcd hr hcn htb tk => by
    subst hcn htb
    have sc := sc__law_clause
    exact (qss_cons (qs_set (i := 3) sc.nd rfl loc_of (qe_callB cr_sortedI p_sorted rfl h.B_sorted rfl (qa_cons (qe_sl s_sl p_sl (qe_callG ((ok__law_mixed h).mono (by decide)) hr rfl h.G19 h.F19.kp (b__law_mixed h) tk (qa_cons (qv 0) (qa_cons (qe_listRg rfl rfl h.B_list rfl h.B_range qe_int (qe_op o_add p_add (qv 1) qe_int)) qa_nil))) qo_none (qo_some (qe_callG ((ok__law_draw h).mono (by decide)) hr rfl h.G17 h.F17.kp (b__law_draw h) tk (qa_cons (qv 0) (qa_cons (qe_op o_add p_add (qv 2) qe_int) qa_nil))))) qa_nil)))
    (qss_one (qs_ret (qe_callTy call_tuple_of p_tuple rfl h.B_tuple rfl (qa_cons (qe_lc (own := [("atom", 4)]) rfl sc.nd (qi_seq (qv 3)) (blkOk_by (by kernel_rfl)) (by decide) (fun _ _ _ _ _ => (qg_name sc.nd rfl loc_of)) (fun _ _ _ _ _ => qts_nil) (fun _ _ _ _ _ => (qe_op op_mulX p_mul (qe_callG ((ok__law_any h).mono (by decide)) hr rfl h.G18 h.F18.kp (b__law_any h) LamX.takes0 (qa_cons (qv 0) (qa_cons (qe_lst (qk_cons qe_int (qk_cons (qe_un un_neg p_neg qe_int) qk_nil))) qa_nil))) (qv 4)))) qa_nil)))))
theorem sc__law_models : FnScope ["lot_row", "world", "one"] ["lot_row"] (defScope s__law_models) := ⟨rfl, rfl, rfl, by decide +kernel, rfl, by decide +kernel, by decide +kernel⟩
theorem b__law_models (h : Hs K mg base fa fdd tb) : Binds K (fdd 28) ["lot_row"] [] := h.F28.bindsN fun _ _ _ _ _ _ us hl => match us, hl with
  | [_], _ => rfl
theorem ok__law_models (h : Hs K mg base fa fdd tb) : FnG P w K mg base 3 (fa 28) (fdd 28) ["lot_row"] (spV K cn tb [.pl] g__law_models) :=
  fn_okG h.F28 sc__law_models rfl (by decide) fun cdv A outer s H E F hcd hr hcn htb tk => by
    subst hcn htb
    have sc := sc__law_models
    exact (qss_one (qs_ret (qe_lc (own := [("world", 1)]) rfl sc.nd (qi_seq (qe_callG ((ok__law_worlds h).mono (by decide)) hr rfl h.G26 h.F26.kp (b__law_worlds h) tk (qa_cons (qe_callG ((ok__law_many h).mono (by decide)) hr rfl h.G24 h.F24.kp (b__law_many h) tk (qa_cons (qv 0) qa_nil)) qa_nil))) (blkOk_by (by kernel_rfl)) (by decide) (fun _ _ _ _ _ => (qg_name sc.nd rfl loc_of)) (fun _ _ _ _ _ => (qts_one (qt_not (qt_val (qe_callB (cr_any rfl) p_any rfl h.B_any rfl (qa_cons (qe_lc (own := [("one", 2)]) rfl sc.nd (qi_seq (qv 0)) (blkOk_by (by kernel_rfl)) (by decide) (fun _ _ _ _ _ => (qg_name sc.nd rfl loc_of)) (fun _ _ _ _ _ => qts_nil) (fun _ _ _ _ _ => (qe_callG ((ok__law_breaks h).mono (by decide)) hr rfl h.G27 h.F27.kp (b__law_breaks h) LamX.takes0 (qa_cons (qv 2) (qa_cons (qv 1) qa_nil))))) qa_nil)))))) (fun _ _ _ _ _ => (qv 1)))))
theorem sc__law_deep : FnScope ["hand", "thing", "lap"] ["hand", "thing"] (defScope s__law_deep) := ⟨rfl, rfl, rfl, by decide +kernel, rfl, by decide +kernel, by decide +kernel⟩
theorem b__law_deep (h : Hs K mg base fa fdd tb) : Binds K (fdd 31) ["hand", "thing"] [] := h.F31.bindsN fun _ _ _ _ _ _ us hl => match us, hl with
  | [_, _], _ => rfl
def m__law_deep_1 : M Fl :=
    (sKl [2] (sSet 1 (mCall g__law_any [.mu, .pl] (aCons (mV 0) (aCons (mLst (kCons (mTup (kCons (mV 1) kNil)) (kCons (mLst (kCons (mV 1) kNil)) kNil))) aNil)))))
def m__law_deep : M Fl :=
    (sSeq (sKl [2] (sFor (iFn rng1 (aCons (m2 fAdd (mC (.int 5)) (mCall g__law_draw [.mu, .pl] (aCons (mV 0) (aCons (mC (.int 25)) aNil)))) aNil)) (tName 2) m__law_deep_1))
    (sRet (mV 1)))
def g__law_deep : List D → FR := runD [.mu, .pl] 1 m__law_deep
theorem ok__law_deep (h : Hs K mg base fa fdd tb) : FnG P w K mg base 3 (fa 31) (fdd 31) ["hand", "thing"] (spV K cn tb [.mu, .pl] g__law_deep) :=
  fn_okG h.F31 sc__law_deep rfl (by decide) fun cdv A outer s H E F hcd hr hcn htb tk => by
    subst hcn htb
    have sc := sc__law_deep
    exact (qss_cons (qs_kl [2] (qs_for (passes_of rfl) rfl (qi_range1 rfl h.B_range (qa_cons (qe_op o_add p_add qe_int (qe_callG ((ok__law_draw h).mono (by decide)) hr rfl h.G17 h.F17.kp (b__law_draw h) tk (qa_cons (qv 0) (qa_cons qe_int qa_nil)))) qa_nil)) (qg_name sc.nd rfl loc_of) (qss_kl [2] (qss_one (qs_set (i := 1) sc.nd rfl loc_of (qe_callG ((ok__law_any h).mono (by decide)) hr rfl h.G18 h.F18.kp (b__law_any h) tk (qa_cons (qv 0) (qa_cons (qe_lst (qk_cons (qe_tup (qk_cons (qv 1) qk_nil)) (qk_cons (qe_lst (qk_cons (qv 1) qk_nil)) qk_nil))) qa_nil))))))))
    (qss_one (qs_ret (qv 1))))
theorem sc_is_clauses : FnScope ["thing", "one"] ["thing"] (defScope s_is_clauses) := ⟨rfl, rfl, rfl, by decide +kernel, rfl, by decide +kernel, by decide +kernel⟩
theorem b_is_clauses (h : Hs K mg base fa fdd tb) : Binds K (fdd 6) ["thing"] [] := h.F6.bindsN fun _ _ _ _ _ _ us hl => match us, hl with
  | [_], _ => rfl
theorem ok_is_clauses (h : Hs K mg base fa fdd tb) : FnG P w K mg base 4 (fa 6) (fdd 6) ["thing"] (spV K cn tb [.pl] g_is_clauses) :=
  fn_okG h.F6 sc_is_clauses rfl (by decide) fun cdv A outer s H E F hcd hr hcn htb tk => by
    subst hcn htb
    have sc := sc_is_clauses
    exact (qss_cons (qs_if (qt_w (qw_or (qt_not (qt_val (qe_isi isi_tuple rfl h.B_isinstance rfl h.B_tuple rfl (qv 0)))) (qw_or1 (qt_cmp op_gt p_gt (qe_callB c_len p_len rfl h.B_len rfl (qa_cons (qv 0) qa_nil)) (qe_glI rfl h.I_MOST_CLAUSES) (nomark _))))) (qss_one (qs_ret qe_bl)) qss_nil)
    (qss_one (qs_ret (qe_callB (cr_all rfl) p_all rfl h.B_all rfl (qa_cons (qe_lc (own := [("one", 1)]) rfl sc.nd (qi_seq (qv 0)) (blkOk_by (by kernel_rfl)) (by decide) (fun _ _ _ _ _ => (qg_name sc.nd rfl loc_of)) (fun _ _ _ _ _ => qts_nil) (fun _ _ _ _ _ => (qe_callG ((ok_is_clause h).mono (by decide)) hr rfl h.G5 h.F5.kp (b_is_clause h) LamX.takes0 (qa_cons (qv 1) qa_nil)))) qa_nil)))))
theorem sc__law_clauses : FnScope ["hand", "found", "atoms_here", "way", "some", "atom", "lap", "one", "longer"] ["hand"] (defScope s__law_clauses) := ⟨rfl, rfl, rfl, by decide +kernel, rfl, by decide +kernel, by decide +kernel⟩
theorem b__law_clauses (h : Hs K mg base fa fdd tb) : Binds K (fdd 23) ["hand"] [] := h.F23.bindsN fun _ _ _ _ _ _ us hl => match us, hl with
  | [_], _ => rfl
theorem ok__law_clauses (h : Hs K mg base fa fdd tb) : FnG P w K mg base 4 (fa 23) (fdd 23) ["hand"] (spV K cn tb [.mu] g__law_clauses) :=
  fn_okG h.F23 sc__law_clauses rfl (by decide) fun cdv A outer s H E F hcd hr hcn htb tk => by
    subst hcn htb
    have sc := sc__law_clauses
    exact (qss_cons (qs_asg (qe_tup (qk_cons (qe_op o_add p_add qe_int (qe_callG ((ok__law_draw h).mono (by decide)) hr rfl h.G17 h.F17.kp (b__law_draw h) tk (qa_cons (qv 0) (qa_cons qe_int qa_nil)))) (qk_cons (qe_callG ((ok__law_draw h).mono (by decide)) hr rfl h.G17 h.F17.kp (b__law_draw h) tk (qa_cons (qv 0) (qa_cons qe_int qa_nil))) qk_nil))) (qg_tup rfl (qgs_cons (qg_name sc.nd rfl loc_of) (qgs_cons (qg_name sc.nd rfl loc_of) qgs_nil)) (ts_lenS (ts_lenS ts_len0))))
    (qss_cons (qs_setLc (i := 1) (own := [("lap", 6)]) rfl sc.nd rfl rfl rfl (qi_range1 rfl h.B_range (qa_cons (qe_callG ((ok__law_draw h).mono (by decide)) hr rfl h.G17 h.F17.kp (b__law_draw h) tk (qa_cons (qv 0) (qa_cons qe_int qa_nil))) qa_nil)) (blkOk_by (by kernel_rfl)) (by decide) (fun _ _ _ _ _ => (qg_name sc.nd rfl loc_of)) (fun _ _ _ _ _ => qts_nil) (fun _ _ _ _ _ => (qe_callG ((ok__law_clause h).mono (by decide)) hr rfl h.G22 h.F22.kp (b__law_clause h) LamX.takes0 (qa_cons (qv 0) (qa_cons (qv 2) (qa_cons qe_int qa_nil))))))
    (qss_cons (qs_setLc (i := 1) (own := [("one", 7)]) rfl sc.nd rfl rfl rfl (qi_seq (qv 1)) (blkOk_by (by kernel_rfl)) (by decide) (fun _ _ _ _ _ => (qg_name sc.nd rfl loc_of)) (fun _ _ _ _ _ => (qts_one (qt_w (qw_or (qt_cmp op_gt p_gt (qe_callB c_len p_len rfl h.B_len rfl (qa_cons (qv 7) qa_nil)) qe_int (nomark _)) (qw_or1 (qt_cmp (op_eqD hr.units) p_eq (qe_callG ((ok__law_draw h).mono (by decide)) hr rfl h.G17 h.F17.kp (b__law_draw h) LamX.takes0 (qa_cons (qv 0) (qa_cons qe_int qa_nil))) qe_int (nomark _))))))) (fun _ _ _ _ _ => (qv 7)))
    (qss_cons (qs_if (qt_cmp op_gt p_gt (qv 3) qe_int (nomark _)) (qss_cons (qs_set (i := 4) sc.nd rfl loc_of (qe_lst (qk_cons (qe_tup qk_nil) qk_nil)))
    (qss_cons (qs_for (passes_of rfl) rfl (qi_seq (qe_sl s_sl p_sl (qe_callG ((ok__law_mixed h).mono (by decide)) hr rfl h.G19 h.F19.kp (b__law_mixed h) tk (qa_cons (qv 0) (qa_cons (qe_listRg rfl rfl h.B_list rfl h.B_range qe_int (qe_op o_add p_add (qv 2) qe_int)) qa_nil))) qo_none (qo_some qe_int))) (qg_name sc.nd rfl loc_of) (qss_cons (qs_set (i := 8) sc.nd rfl loc_of (qe_lst qk_nil))
    (qss_cons (qs_for (passes_of rfl) rfl (qi_seq (qv 4)) (qg_name sc.nd rfl loc_of) (qss_one (qs_expr (qe_ext (i := 8) rfl (by first | exact Or.inl rfl | exact Or.inr (Or.inl rfl) | exact Or.inr (Or.inr rfl)) (qe_lst (qk_cons (qe_op o_add p_add (qv 7) (qe_tup (qk_cons (qv 5) qk_nil))) (qk_cons (qe_op o_add p_add (qv 7) (qe_tup (qk_cons (qe_op op_sub p_sub qe_int (qv 5)) qk_nil))) qk_nil)))))))
    (qss_one (qs_set (i := 4) sc.nd rfl loc_of (qv 8))))))
    (qss_one (qs_set (i := 1) sc.nd rfl loc_of (qe_op o_add p_add (qe_sl s_sl p_sl (qv 1) qo_none (qo_some qe_int)) (qe_lc (own := [("one", 7)]) rfl sc.nd (qi_seq (qv 4)) (blkOk_by (by kernel_rfl)) (by decide) (fun _ _ _ _ _ => (qg_name sc.nd rfl loc_of)) (fun _ _ _ _ _ => (qts_one (qt_w (qw_or (qt_cmp op_gt p_gt (qv 3) qe_int (nomark _)) (qw_or1 (qt_cmp op_gt p_gt (qe_callG ((ok__law_draw h).mono (by decide)) hr rfl h.G17 h.F17.kp (b__law_draw h) LamX.takes0 (qa_cons (qv 0) (qa_cons qe_int qa_nil))) qe_int (nomark _))))))) (fun _ _ _ _ _ => (qe_callTy call_tuple_of p_tuple rfl h.B_tuple rfl (qa_cons (qe_sortK rfl hr.units rfl h.B_sorted (qv 7) (ke_abs rfl h.B_abs)) qa_nil))))))))) qss_nil)
    (qss_one (qs_ret (qe_callTy call_tuple_of p_tuple rfl h.B_tuple rfl (qa_cons (qe_callG ((ok__law_mixed h).mono (by decide)) hr rfl h.G19 h.F19.kp (b__law_mixed h) tk (qa_cons (qv 0) (qa_cons (qe_op o_add p_add (qv 1) (qe_sl s_sl p_sl (qv 1) qo_none (qo_some (qe_callG ((ok__law_draw h).mono (by decide)) hr rfl h.G17 h.F17.kp (b__law_draw h) tk (qa_cons (qv 0) (qa_cons qe_int qa_nil)))))) qa_nil))) qa_nil))))))))
theorem sc__law_near : FnScope ["hand", "lot_row", "one", "at", "new", "some"] ["hand", "lot_row"] (defScope s__law_near) := ⟨rfl, rfl, rfl, by decide +kernel, rfl, by decide +kernel, by decide +kernel⟩
theorem b__law_near (h : Hs K mg base fa fdd tb) : Binds K (fdd 33) ["hand", "lot_row"] [] := h.F33.bindsN fun _ _ _ _ _ _ us hl => match us, hl with
  | [_, _], _ => rfl
def m__law_near : M Fl :=
    (sSeq (sSet 2 (mCall g__law_any [.mu, .pl] (aCons (mV 0) (aCons (m2 fAdd (mB (f1 fList) (aCons (mV 1) aNil)) (mLst (kCons (mTup (kCons (mC (.int 1)) (kCons (m1 fNeg (mC (.int 2))) (kCons (mC (.int 3)) kNil)))) kNil))) aNil))))
    (sSeq (sSet 3 (mCall g__law_draw [.mu, .pl] (aCons (mV 0) (aCons (m2 fAdd (mB (f1 fLen) (aCons (mV 2) aNil)) (mC (.int 1))) aNil))))
    (sSeq (sSet 4 (mCall g__law_any [.mu, .pl] (aCons (mV 0) (aCons (mLst (kCons (mC (.int 0)) (kCons (mC (.int 12)) (kCons (mC (.int 13)) (kCons (m1 fNeg (mC (.int 12))) (kCons (m1 fNeg (mC (.int 13))) (kCons (mC (.bool true)) (kCons (mC .none) (kCons (mC (.str "1")) (kCons (mTup (kCons (mC (.int 1)) kNil)) (kCons (mIf (mT (m2 fGt (mB (f1 fLen) (aCons (mV 2) aNil)) (mC (.int 0)))) (m2 fIx (mV 2) (mC (.int 0))) (mC (.int 5))) kNil))))))))))) aNil))))
    (sSeq (sSet 5 (mLst (kCons (mV 2) (kCons (m2 fAdd (m2 fAdd (mSl fSl (mV 2) bNo (bAt (mV 3))) (mTup (kCons (mV 4) kNil))) (mSl fSl (mV 2) (bAt (mV 3)) bNo)) (kCons (m2 fAdd (m2 fAdd (mSl fSl (mV 2) bNo (bAt (mV 3))) (mTup (kCons (mV 4) kNil))) (mSl fSl (mV 2) (bAt (m2 fAdd (mV 3) (mC (.int 1)))) bNo)) (kCons (m1 fRev (mV 2)) (kCons (mB (f1 fList) (aCons (mV 2) aNil)) (kCons (m2 fAdd (mV 2) (mSl fSl (mV 2) (bAt (m1 fNeg (mC (.int 1)))) bNo)) kNil))))))))
    (sRet (mCall g__law_any [.mu, .pl] (aCons (mV 0) (aCons (m2 fAdd (mV 5) (mLst (kCons (mC .none) (kCons mDict0 (kCons (mC (.int 0)) (kCons (mC (.str "clause")) (kCons (mIf (mT (m2 fGt (mB (f1 fLen) (aCons (mV 2) aNil)) (mC (.int 0)))) (m2 fAdd (mV 2) (mTup (kCons (m2 fSub (mC (.int 0)) (m2 fIx (mV 2) (m1 fNeg (mC (.int 1))))) kNil))) (mTup kNil)) (kCons (mTup (kCons (mC (.int 1)) (kCons (m1 fNeg (mC (.int 12))) kNil))) (kCons (mCall g__law_deep [.mu, .pl] (aCons (mV 0) (aCons (mC (.int 1)) aNil))) kNil))))))))) aNil))))))))
def g__law_near : List D → FR := runD [.mu, .pl] 4 m__law_near
theorem ok__law_near (h : Hs K mg base fa fdd tb) : FnG P w K mg base 4 (fa 33) (fdd 33) ["hand", "lot_row"] (spV K cn tb [.mu, .pl] g__law_near) :=
  fn_okG h.F33 sc__law_near rfl (by decide) fun cdv A outer s H E F hcd hr hcn htb tk => by
    subst hcn htb
    have sc := sc__law_near
    exact (qss_cons (qs_set (i := 2) sc.nd rfl loc_of (qe_callG ((ok__law_any h).mono (by decide)) hr rfl h.G18 h.F18.kp (b__law_any h) tk (qa_cons (qv 0) (qa_cons (qe_op o_add p_add (qe_callTy call_list_of p_list rfl h.B_list rfl (qa_cons (qv 1) qa_nil)) (qe_lst (qk_cons (qe_tup (qk_cons qe_int (qk_cons (qe_un un_neg p_neg qe_int) (qk_cons qe_int qk_nil)))) qk_nil))) qa_nil))))
    (qss_cons (qs_set (i := 3) sc.nd rfl loc_of (qe_callG ((ok__law_draw h).mono (by decide)) hr rfl h.G17 h.F17.kp (b__law_draw h) tk (qa_cons (qv 0) (qa_cons (qe_op o_add p_add (qe_callB c_len p_len rfl h.B_len rfl (qa_cons (qv 2) qa_nil)) qe_int) qa_nil))))
    (qss_cons (qs_set (i := 4) sc.nd rfl loc_of (qe_callG ((ok__law_any h).mono (by decide)) hr rfl h.G18 h.F18.kp (b__law_any h) tk (qa_cons (qv 0) (qa_cons (qe_lst (qk_cons qe_int (qk_cons qe_int (qk_cons qe_int (qk_cons (qe_un un_neg p_neg qe_int) (qk_cons (qe_un un_neg p_neg qe_int) (qk_cons qe_bl (qk_cons qe_non (qk_cons qe_str (qk_cons (qe_tup (qk_cons qe_int qk_nil)) (qk_cons (qe_if (qt_cmp op_gt p_gt (qe_callB c_len p_len rfl h.B_len rfl (qa_cons (qv 2) qa_nil)) qe_int (nomark _)) (qe_ix ix_seq p_ix (qv 2) qe_int (fun _ _ => rfl)) qe_int) qk_nil))))))))))) qa_nil))))
    (qss_cons (qs_set (i := 5) sc.nd rfl loc_of (qe_lst (qk_cons (qv 2) (qk_cons (qe_op o_add p_add (qe_op o_add p_add (qe_sl s_sl p_sl (qv 2) qo_none (qo_some (qv 3))) (qe_tup (qk_cons (qv 4) qk_nil))) (qe_sl s_sl p_sl (qv 2) (qo_some (qv 3)) qo_none)) (qk_cons (qe_op o_add p_add (qe_op o_add p_add (qe_sl s_sl p_sl (qv 2) qo_none (qo_some (qv 3))) (qe_tup (qk_cons (qv 4) qk_nil))) (qe_sl s_sl p_sl (qv 2) (qo_some (qe_op o_add p_add (qv 3) qe_int)) qo_none)) (qk_cons (qe_rev (qv 2)) (qk_cons (qe_callTy call_list_of p_list rfl h.B_list rfl (qa_cons (qv 2) qa_nil)) (qk_cons (qe_op o_add p_add (qv 2) (qe_sl s_sl p_sl (qv 2) (qo_some (qe_un un_neg p_neg qe_int)) qo_none)) qk_nil))))))))
    (qss_one (qs_ret (qe_callG ((ok__law_any h).mono (by decide)) hr rfl h.G18 h.F18.kp (b__law_any h) tk (qa_cons (qv 0) (qa_cons (qe_op o_add p_add (qv 5) (qe_lst (qk_cons qe_non (qk_cons qe_dict0 (qk_cons qe_int (qk_cons qe_str (qk_cons (qe_if (qt_cmp op_gt p_gt (qe_callB c_len p_len rfl h.B_len rfl (qa_cons (qv 2) qa_nil)) qe_int (nomark _)) (qe_op o_add p_add (qv 2) (qe_tup (qk_cons (qe_op op_sub p_sub qe_int (qe_ix ix_seq p_ix (qv 2) (qe_un un_neg p_neg qe_int) (fun _ _ => rfl))) qk_nil))) (qe_tup qk_nil)) (qk_cons (qe_tup (qk_cons qe_int (qk_cons (qe_un un_neg p_neg qe_int) qk_nil))) (qk_cons (qe_callG ((ok__law_deep h).mono (by decide)) hr rfl h.G31 h.F31.kp (b__law_deep h) tk (qa_cons (qv 0) (qa_cons qe_int qa_nil))) qk_nil))))))))) qa_nil)))))))))
theorem sc_check_clauses : FnScope ["clauses"] ["clauses"] (defScope s_check_clauses) := ⟨rfl, rfl, rfl, by decide +kernel, rfl, by decide +kernel, by decide +kernel⟩
theorem b_check_clauses (h : Hs K mg base fa fdd tb) : Binds K (fdd 7) ["clauses"] [] := h.F7.bindsN fun _ _ _ _ _ _ us hl => match us, hl with
  | [_], _ => rfl
theorem ok_check_clauses (h : Hs K mg base fa fdd tb) : FnG P w K mg base 5 (fa 7) (fdd 7) ["clauses"] (spV K cn tb [.pl] g_check_clauses) :=
  fn_okG h.F7 sc_check_clauses rfl (by decide) fun cdv A outer s H E F hcd hr hcn htb tk => by
    subst hcn htb
    have sc := sc_check_clauses
    exact (qss_one (qs_if (qt_not (qt_tru (qe_callG ((ok_is_clauses h).mono (by decide)) hr rfl h.G6 h.F6.kp (b_is_clauses h) tk (qa_cons (qv 0) qa_nil)))) (qss_one qs_no) qss_nil))
theorem sc_broken : FnScope ["clauses", "world", "at", "clause"] ["clauses", "world"] (defScope s_broken) := ⟨rfl, rfl, rfl, by decide +kernel, rfl, by decide +kernel, by decide +kernel⟩
theorem b_broken (h : Hs K mg base fa fdd tb) : Binds K (fdd 11) ["clauses", "world"] [] := h.F11.bindsN fun _ _ _ _ _ _ us hl => match us, hl with
  | [_, _], _ => rfl
def m_broken_1 : M Bool :=
    (mNot (mTr (mCall g_holds_in [.pl, .pl] (aCons (mV 3) (aCons (mV 1) aNil)))))
def m_broken_2 : M Op :=
    (mV 2)
def m_broken : M Fl :=
    (sSeq (sDrop (mCall g_check_clauses [.pl] (aCons (mV 0) aNil)))
    (sSeq (sIf (mNot (mTr (mCall g_is_world [.pl, .pl] (aCons (mV 1) (aCons (mCall g_many_in [.pl] (aCons (mV 0) aNil)) aNil))))) sNo sNx)
    (sRet (mB (f1 fTuple) (aCons (mLc (iFnK enm (kiCons (mV 0) kiNil)) (tTup (tsCons (tName 2) (tsCons (tName 3) tsNil))) m_broken_1 m_broken_2 [2, 3]) aNil)))))
def g_broken : List D → FR := runD [.pl, .pl] 2 m_broken
theorem ok_broken (h : Hs K mg base fa fdd tb) : FnG P w K mg base 6 (fa 11) (fdd 11) ["clauses", "world"] (spV K cn tb [.pl, .pl] g_broken) :=
  fn_okG h.F11 sc_broken rfl (by decide) fun cdv A outer s H E F hcd hr hcn htb tk => by
    subst hcn htb
    have sc := sc_broken
    exact (qss_cons (qs_expr (qe_callG ((ok_check_clauses h).mono (by decide)) hr rfl h.G7 h.F7.kp (b_check_clauses h) tk (qa_cons (qv 0) qa_nil)))
    (qss_cons (qs_if (qt_not (qt_tru (qe_callG ((ok_is_world h).mono (by decide)) hr rfl h.G4 h.F4.kp (b_is_world h) tk (qa_cons (qv 1) (qa_cons (qe_callG ((ok_many_in h).mono (by decide)) hr rfl h.G8 h.F8.kp (b_many_in h) tk (qa_cons (qv 0) qa_nil)) qa_nil))))) (qss_one qs_no) qss_nil)
    (qss_one (qs_ret (qe_callTy call_tuple_of p_tuple rfl h.B_tuple rfl (qa_cons (qe_lc (own := [("at", 2), ("clause", 3)]) rfl sc.nd (qi_enum rfl h.B_enumerate (qki_cons (qv 0) qki_nil)) (blkOk_by (by kernel_rfl)) (by decide) (fun _ _ _ _ _ => (qg_tup rfl (qgs_cons (qg_name sc.nd rfl loc_of) (qgs_cons (qg_name sc.nd rfl loc_of) qgs_nil)) (ts_lenS (ts_lenS ts_len0)))) (fun _ _ _ _ _ => (qts_one (qt_not (qt_tru (qe_callG ((ok_holds_in h).mono (by decide)) hr rfl h.G9 h.F9.kp (b_holds_in h) LamX.takes0 (qa_cons (qv 3) (qa_cons (qv 1) qa_nil))))))) (fun _ _ _ _ _ => (qv 2))) qa_nil))))))
theorem sc_models_of : FnScope ["clauses", "many", "worlds", "number", "world"] ["clauses"] (defScope s_models_of) := ⟨rfl, rfl, rfl, by decide +kernel, rfl, by decide +kernel, by decide +kernel⟩
theorem b_models_of (h : Hs K mg base fa fdd tb) : Binds K (fdd 12) ["clauses"] [] := h.F12.bindsN fun _ _ _ _ _ _ us hl => match us, hl with
  | [_], _ => rfl
theorem ok_models_of (h : Hs K mg base fa fdd tb) : FnG P w K mg base 6 (fa 12) (fdd 12) ["clauses"] (spV K cn tb [.pl] g_models_of) :=
  fn_okG h.F12 sc_models_of rfl (by decide) fun cdv A outer s H E F hcd hr hcn htb tk => by
    subst hcn htb
    have sc := sc_models_of
    exact (qss_cons (qs_expr (qe_callG ((ok_check_clauses h).mono (by decide)) hr rfl h.G7 h.F7.kp (b_check_clauses h) tk (qa_cons (qv 0) qa_nil)))
    (qss_cons (qs_set (i := 1) sc.nd rfl loc_of (qe_callG ((ok_many_in h).mono (by decide)) hr rfl h.G8 h.F8.kp (b_many_in h) tk (qa_cons (qv 0) qa_nil)))
    (qss_cons (qs_if (qt_cmp op_gt p_gt (qv 1) qe_int (nomark _)) (qss_one qs_no) qss_nil)
    (qss_cons (qs_setLc (i := 2) (own := [("number", 3)]) rfl sc.nd rfl rfl rfl (qi_range1 rfl h.B_range (qa_cons (qe_callG ((ok_two_to h).mono (by decide)) hr rfl h.G2 h.F2.kp (b_two_to h) tk (qa_cons (qv 1) qa_nil)) qa_nil)) (blkOk_by (by kernel_rfl)) (by decide) (fun _ _ _ _ _ => (qg_name sc.nd rfl loc_of)) (fun _ _ _ _ _ => qts_nil) (fun _ _ _ _ _ => (qe_callG ((ok_bits_of h).mono (by decide)) hr rfl h.G3 h.F3.kp (b_bits_of h) LamX.takes0 (qa_cons (qv 3) (qa_cons (qv 1) qa_nil)))))
    (qss_one (qs_ret (qe_lc (own := [("world", 4)]) rfl sc.nd (qi_seq (qv 2)) (blkOk_by (by kernel_rfl)) (by decide) (fun _ _ _ _ _ => (qg_name sc.nd rfl loc_of)) (fun _ _ _ _ _ => (qts_one (qt_cmp o_is p_is (qe_callG ((ok_first_broken h).mono (by decide)) hr rfl h.G10 h.F10.kp (b_first_broken h) LamX.takes0 (qa_cons (qv 0) (qa_cons (qv 4) qa_nil))) qe_non (nomark _)))) (fun _ _ _ _ _ => (qv 4)))))))))
theorem sc_resolvent : FnScope ["one", "other", "atom"] ["one", "other", "atom"] (defScope s_resolvent) := ⟨rfl, rfl, rfl, by decide +kernel, rfl, by decide +kernel, by decide +kernel⟩
theorem b_resolvent (h : Hs K mg base fa fdd tb) : Binds K (fdd 15) ["one", "other", "atom"] [] := h.F15.bindsN fun _ _ _ _ _ _ us hl => match us, hl with
  | [_, _, _], _ => rfl
def m_resolvent : M Fl :=
    (sSeq (sDrop (mCall g_check_clauses [.pl] (aCons (mTup (kCons (mV 0) (kCons (mV 1) kNil))) aNil)))
    (sSeq (sIf (mNot (mTr (mCall g_is_within [.pl, .pl, .pl] (aCons (mV 2) (aCons (mC (.int 1)) (aCons (mC (.int 12)) aNil)))))) sNo sNx)
    (sRet (mCall g_resolved [.pl, .pl, .pl] (aCons (mV 0) (aCons (mV 1) (aCons (mV 2) aNil)))))))
def g_resolvent : List D → FR := runD [.pl, .pl, .pl] 0 m_resolvent
theorem ok_resolvent (h : Hs K mg base fa fdd tb) : FnG P w K mg base 6 (fa 15) (fdd 15) ["one", "other", "atom"] (spV K cn tb [.pl, .pl, .pl] g_resolvent) :=
  fn_okG h.F15 sc_resolvent rfl (by decide) fun cdv A outer s H E F hcd hr hcn htb tk => by
    subst hcn htb
    have sc := sc_resolvent
    exact (qss_cons (qs_expr (qe_callG ((ok_check_clauses h).mono (by decide)) hr rfl h.G7 h.F7.kp (b_check_clauses h) tk (qa_cons (qe_tup (qk_cons (qv 0) (qk_cons (qv 1) qk_nil))) qa_nil)))
    (qss_cons (qs_if (qt_not (qt_tru (qe_callG ((ok_is_within h).mono (by decide)) hr rfl h.G1 h.F1.kp (b_is_within h) tk (qa_cons (qv 2) (qa_cons qe_int (qa_cons (qe_glI rfl h.I_MOST_ATOMS) qa_nil)))))) (qss_one qs_no) qss_nil)
    (qss_one (qs_ret (qe_callG ((ok_resolved h).mono (by decide)) hr rfl h.G14 h.F14.kp (b_resolved h) tk (qa_cons (qv 0) (qa_cons (qv 1) (qa_cons (qv 2) qa_nil))))))))
theorem sc__law_same : FnScope ["one", "due", "a", "b"] ["one", "due"] (defScope s__law_same) := ⟨rfl, rfl, rfl, by decide +kernel, rfl, by decide +kernel, by decide +kernel⟩
theorem b__law_same (h : Hs K mg base fa fdd tb) : Binds K (fdd 20) ["one", "due"] [] := h.F20.bindsN fun _ _ _ _ _ _ us hl => match us, hl with
  | [_, _], _ => rfl
theorem ok__law_same (h : Hs K mg base fa fdd tb) : ∀ n : Nat, FnG P w K mg base (n + 1) (fa 20) (fdd 20) ["one", "due"] (spV K cn tb [.pl, .pl] (g__law_same n))
  | 0 => (fn_noG h.F20 sc__law_same rfl).mono (Nat.le_add_left ..)
  | n + 1 => by
    have ih0 := @ok__law_same h n
    rw [show n + 1 + 1 = (n + 1) + 1 from by omega]
    exact fn_okG h.F20 sc__law_same rfl (by decide) fun cdv A outer s H E F hcd hr hcn htb tk => by
      subst hcn htb
      have sc := sc__law_same
      have ih := ih0
      exact (qss_cons (qs_if (qt_w (qw_or (qt_val (qe_isi isi_tuple rfl h.B_isinstance rfl h.B_tuple rfl (qv 1))) (qw_or1 (qt_val (qe_isi isi_list rfl h.B_isinstance rfl h.B_list rfl (qv 1)))))) (qss_cons (qs_if (qt_w (qw_or (qt_cmp (op_neD hr.units) p_ne (qe_isi isi_tuple rfl h.B_isinstance rfl h.B_tuple rfl (qv 0)) (qe_isi isi_tuple rfl h.B_isinstance rfl h.B_tuple rfl (qv 1)) (nomark _)) (qw_or1 (qt_cmp (op_neD hr.units) p_ne (qe_isi isi_list rfl h.B_isinstance rfl h.B_list rfl (qv 0)) (qe_isi isi_list rfl h.B_isinstance rfl h.B_list rfl (qv 1)) (nomark _))))) (qss_one (qs_ret qe_bl)) qss_nil)
    (qss_one (qs_ret (qe_and (qe_cmp (op_eqD hr.units) p_eq (qe_callB c_len p_len rfl h.B_len rfl (qa_cons (qv 0) qa_nil)) (qe_callB c_len p_len rfl h.B_len rfl (qa_cons (qv 1) qa_nil)) (nomark _)) (qe_one (qe_callB (cr_all rfl) p_all rfl h.B_all rfl (qa_cons (qe_lc (own := [("a", 2), ("b", 3)]) rfl sc.nd (qi_zip rfl h.B_zip (qki_cons (qv 0) (qki_cons (qv 1) qki_nil))) (blkOk_by (by kernel_rfl)) (by decide) (fun _ _ _ _ _ => (qg_tup rfl (qgs_cons (qg_name sc.nd rfl loc_of) (qgs_cons (qg_name sc.nd rfl loc_of) qgs_nil)) (ts_lenS (ts_lenS ts_len0)))) (fun _ _ _ _ _ => qts_nil) (fun _ _ _ _ _ => (qe_callG ih hr rfl h.G20 h.F20.kp (b__law_same h) LamX.takes0 (qa_cons (qv 2) (qa_cons (qv 3) qa_nil))))) qa_nil))))))) qss_nil)
    (qss_cons (qs_if (qt_w (qw_or (qt_cmp (op_neD hr.units) p_ne (qe_isi isi_bool rfl h.B_isinstance rfl h.B_bool rfl (qv 0)) (qe_isi isi_bool rfl h.B_isinstance rfl h.B_bool rfl (qv 1)) (nomark _)) (qw_or1 (qt_cmp (op_neD hr.units) p_ne (qe_cmp o_is p_is (qv 0) qe_non (nomark _)) (qe_cmp o_is p_is (qv 1) qe_non (nomark _)) (nomark _))))) (qss_one (qs_ret qe_bl)) qss_nil)
    (qss_one (qs_ret (qe_and (qe_cmp (op_eqD hr.units) p_eq (qe_isi isi_int rfl h.B_isinstance rfl h.B_int rfl (qv 0)) (qe_isi isi_int rfl h.B_isinstance rfl h.B_int rfl (qv 1)) (nomark _)) (qe_one (qe_cmp (op_eqD hr.units) p_eq (qv 0) (qv 1) (nomark _))))))))
theorem sc__law_are_judged : FnScope ["hand", "lot_row", "lap", "thing", "before", "more", "flag", "one"] ["hand", "lot_row"] (defScope s__law_are_judged) := ⟨rfl, rfl, rfl, by decide +kernel, rfl, by decide +kernel, by decide +kernel⟩
theorem b__law_are_judged (h : Hs K mg base fa fdd tb) : Binds K (fdd 34) ["hand", "lot_row"] [] := h.F34.bindsN fun _ _ _ _ _ _ us hl => match us, hl with
  | [_, _], _ => rfl
def m__law_are_judged_1 : M Op :=
    (mCall g__law_is_clause [.pl] (aCons (mV 7) aNil))
def m__law_are_judged_2 : M Fl :=
    (sKl [2, 3, 4, 5, 6] (sSeq (sSet 3 (mCall g__law_near [.mu, .pl] (aCons (mV 0) (aCons (mV 1) aNil))))
    (sSeq (sSet 4 (mB (f1 fRepr) (aCons (mV 3) aNil)))
    (sSeq (sSet 5 (mCall g__law_any [.mu, .pl] (aCons (mV 0) (aCons (mLst (kCons (m2 fAdd (mV 1) (mTup (kCons (mV 3) kNil))) (kCons (mTup (kCons (mV 3) kNil)) (kCons (mLst (kCons (mV 3) kNil)) (kCons (m2 fAdd (mV 1) (mSl fSl (mV 1) bNo (bAt (mC (.int 1))))) (kCons (m2 fRepT (mTup (kCons (mTup (kCons (mC (.int 1)) kNil)) kNil)) (mC (.int 80))) (kCons (m2 fRepT (mTup (kCons (mTup (kCons (mC (.int 1)) kNil)) kNil)) (mC (.int 81))) (kCons (mV 3) kNil)))))))) aNil))))
    (sSeq (sSet 6 (mAndV (mT (m1 (fIsi ["tuple"]) (mV 5))) (mAndV (mT (m2 fLe (mB (f1 fLen) (aCons (mV 5) aNil)) (mC (.int 80)))) (mB (f1 fAll) (aCons (mLc (iSeqM (mV 5)) (tName 7) tYesM m__law_are_judged_1 [7]) aNil)))))
    (sIf (mOr (mNot (mTr (mCall (g__law_same 12) [.pl, .pl] (aCons (mLst (kCons (mCall g_is_clause [.pl] (aCons (mV 3) aNil)) (kCons (mCall g_is_clauses [.pl] (aCons (mV 5) aNil)) kNil))) (aCons (mLst (kCons (mCall g__law_is_clause [.pl] (aCons (mV 3) aNil)) (kCons (mV 6) kNil))) aNil))))) (mT (m2 fNeS (mB (f1 fRepr) (aCons (mV 3) aNil)) (mV 4)))) (sRet (mC (.bool false))) sNx))))))
def m__law_are_judged : M Fl :=
    (sSeq (sKl [2, 3, 4, 5, 6] (sFor (iFn rng1 (aCons (mC (.int 5)) aNil)) (tName 2) m__law_are_judged_2))
    (sRet (m2 fIs (mCall g_is_clauses [.pl] (aCons (mV 1) aNil)) (mC (.bool true)))))
def g__law_are_judged : List D → FR := runD [.mu, .pl] 6 m__law_are_judged
theorem ok__law_are_judged (h : Hs K mg base fa fdd tb) : FnG P w K mg base 14 (fa 34) (fdd 34) ["hand", "lot_row"] (spV K cn tb [.mu, .pl] g__law_are_judged) :=
  fn_okG h.F34 sc__law_are_judged rfl (by decide) fun cdv A outer s H E F hcd hr hcn htb tk => by
    subst hcn htb
    have sc := sc__law_are_judged
    exact (qss_cons (qs_kl [2, 3, 4, 5, 6] (qs_for (passes_of rfl) rfl (qi_range1 rfl h.B_range (qa_cons qe_int qa_nil)) (qg_name sc.nd rfl loc_of) (qss_kl [2, 3, 4, 5, 6] (qss_cons (qs_set (i := 3) sc.nd rfl loc_of (qe_callG ((ok__law_near h).mono (by decide)) hr rfl h.G33 h.F33.kp (b__law_near h) tk (qa_cons (qv 0) (qa_cons (qv 1) qa_nil))))
    (qss_cons (qs_set (i := 4) sc.nd rfl loc_of (qe_callB (call_reprG hr) (p_repr hr) rfl h.B_repr rfl (qa_cons (qv 3) qa_nil)))
    (qss_cons (qs_set (i := 5) sc.nd rfl loc_of (qe_callG ((ok__law_any h).mono (by decide)) hr rfl h.G18 h.F18.kp (b__law_any h) tk (qa_cons (qv 0) (qa_cons (qe_lst (qk_cons (qe_op o_add p_add (qv 1) (qe_tup (qk_cons (qv 3) qk_nil))) (qk_cons (qe_tup (qk_cons (qv 3) qk_nil)) (qk_cons (qe_lst (qk_cons (qv 3) qk_nil)) (qk_cons (qe_op o_add p_add (qv 1) (qe_sl s_sl p_sl (qv 1) qo_none (qo_some qe_int))) (qk_cons (qe_op op_repT p_repT (qe_tup (qk_cons (qe_tup (qk_cons qe_int qk_nil)) qk_nil)) qe_int) (qk_cons (qe_op op_repT p_repT (qe_tup (qk_cons (qe_tup (qk_cons qe_int qk_nil)) qk_nil)) qe_int) (qk_cons (qv 3) qk_nil)))))))) qa_nil))))
    (qss_cons (qs_set (i := 6) sc.nd rfl loc_of (qe_and (qe_isi isi_tuple rfl h.B_isinstance rfl h.B_tuple rfl (qv 5)) (qe_and (qe_cmp op_le p_le (qe_callB c_len p_len rfl h.B_len rfl (qa_cons (qv 5) qa_nil)) qe_int (nomark _)) (qe_one (qe_callB (cr_all rfl) p_all rfl h.B_all rfl (qa_cons (qe_lc (own := [("one", 7)]) rfl sc.nd (qi_seq (qv 5)) (blkOk_by (by kernel_rfl)) (by decide) (fun _ _ _ _ _ => (qg_name sc.nd rfl loc_of)) (fun _ _ _ _ _ => qts_nil) (fun _ _ _ _ _ => (qe_callG ((ok__law_is_clause h).mono (by decide)) hr rfl h.G32 h.F32.kp (b__law_is_clause h) LamX.takes0 (qa_cons (qv 7) qa_nil)))) qa_nil))))))
    (qss_one (qs_if (qt_w (qw_or (qt_not (qt_tru (qe_callG ((ok__law_same h 12).mono (by decide)) hr rfl h.G20 h.F20.kp (b__law_same h) tk (qa_cons (qe_lst (qk_cons (qe_callG ((ok_is_clause h).mono (by decide)) hr rfl h.G5 h.F5.kp (b_is_clause h) tk (qa_cons (qv 3) qa_nil)) (qk_cons (qe_callG ((ok_is_clauses h).mono (by decide)) hr rfl h.G6 h.F6.kp (b_is_clauses h) tk (qa_cons (qv 5) qa_nil)) qk_nil))) (qa_cons (qe_lst (qk_cons (qe_callG ((ok__law_is_clause h).mono (by decide)) hr rfl h.G32 h.F32.kp (b__law_is_clause h) tk (qa_cons (qv 3) qa_nil)) (qk_cons (qv 6) qk_nil))) qa_nil))))) (qw_or1 (qt_cmp op_ne p_neS (qe_callB (call_reprG hr) (p_repr hr) rfl h.B_repr rfl (qa_cons (qv 3) qa_nil)) (qv 4) (nomark _))))) (qss_one (qs_ret qe_bl)) qss_nil)))))))))
    (qss_one (qs_ret (qe_cmp o_is p_is (qe_callG ((ok_is_clauses h).mono (by decide)) hr rfl h.G6 h.F6.kp (b_is_clauses h) tk (qa_cons (qv 1) qa_nil)) qe_bl (nomark _)))))
theorem sc_law : FnScope ["script", "hand", "lap", "lot_row", "worlds", "world", "again", "atom", "due", "one", "other", "pick", "part", "at"] ["script"] (defScope s_law) := ⟨rfl, rfl, rfl, by decide +kernel, rfl, by decide +kernel, by decide +kernel⟩
theorem b_law (h : Hs K mg base fa fdd tb) : Binds K (fdd 35) ["script"] [] := h.F35.bindsN fun _ _ _ _ _ _ us hl => match us, hl with
  | [_], _ => rfl
def m_law_1 : M Fl :=
    (sKl [5] (sIf (mAnd (mTr (mCall g__law_breaks [.pl, .pl] (aCons (mV 8) (aCons (mV 5) aNil)))) (mAnd (mNot (mTr (mCall g__law_breaks [.pl, .pl] (aCons (mV 9) (aCons (mV 5) aNil))))) (mNot (mTr (mCall g__law_breaks [.pl, .pl] (aCons (mV 10) (aCons (mV 5) aNil))))))) (sRet (mC (.bool false))) sNx))
def m_law_2 : M Op :=
    (mB (f1 fAbs) (aCons (mV 12) aNil))
def m_law_3 : M Op :=
    (mCall g__law_any [.mu, .pl] (aCons (mV 1) (aCons (m2 fAdd (mB (f1 fList) (aCons (mV 3) aNil)) (mLst (kCons (mCall g__law_clause [.mu, .pl, .pl] (aCons (mV 1) (aCons (mC (.int 4)) (aCons (mC (.int 3)) aNil)))) kNil))) aNil)))
def m_law_4 : M Fl :=
    (sKl [5, 6, 7, 8, 9, 10] (sSeq (sTg (tLst (tsCons (tName 9) (tsCons (tName 10) tsNil))) (mLc (iFn rng1 (aCons (mC (.int 2)) aNil)) (tName 11) tYesM m_law_3 [11]))
    (sSeq (sSet 7 (mCall g__law_any [.mu, .pl] (aCons (mV 1) (aCons (m2 fAdd (mLc (iSeqM (mV 9)) (tName 12) tYesM m_law_2 [12]) (mLst (kCons (mC (.int 1)) (kCons (mC (.int 2)) (kCons (mC (.int 12)) kNil))))) aNil))))
    (sSeq (sSet 8 (mCall g__law_resolved [.pl, .pl, .pl] (aCons (mV 9) (aCons (mV 10) (aCons (mV 7) aNil)))))
    (sSeq (sIf (mNot (mTr (mCall (g__law_same 12) [.pl, .pl] (aCons (mCall g_resolvent [.pl, .pl, .pl] (aCons (mV 9) (aCons (mV 10) (aCons (mV 7) aNil)))) (aCons (mV 8) aNil))))) (sRet (mC (.bool false))) sNx)
    (sKl [5] (sIf (mT (m2 fIsNot (mV 8) (mC .none))) (sKl [5] (sFor (iSeqM (mCall g__law_worlds [.pl] (aCons (mCall g__law_many [.pl] (aCons (mTup (kCons (mV 9) (kCons (mV 10) kNil))) aNil)) aNil))) (tName 5) m_law_1)) sNx)))))))
def m_law_5 : M Op :=
    (mCall g__law_any [.mu, .pl] (aCons (mV 1) (aCons (mV 4) aNil)))
def m_law_6 : M Bool :=
    (mTr (mCall g__law_breaks [.pl, .pl] (aCons (mV 9) (aCons (mV 5) aNil))))
def m_law_7 : M Op :=
    (mV 13)
def m_law_8 : M Fl :=
    (sKl [5] (sIf (mNot (mTr (mCall (g__law_same 12) [.pl, .pl] (aCons (mCall g_broken [.pl, .pl] (aCons (mV 3) (aCons (mV 5) aNil))) (aCons (mB (f1 fTuple) (aCons (mLc (iFnK enm (kiCons (mV 3) kiNil)) (tTup (tsCons (tName 13) (tsCons (tName 9) tsNil))) m_law_6 m_law_7 [13, 9]) aNil)) aNil))))) (sRet (mC (.bool false))) sNx))
def m_law_9 : M Fl :=
    (sKl [2, 3, 4, 5, 6, 7, 8, 9, 10] (sSeq (sSet 3 (mCall g__law_clauses [.mu] (aCons (mV 1) aNil)))
    (sSeq (sSet 4 (mCall g__law_worlds [.pl] (aCons (mCall g__law_many [.pl] (aCons (mV 3) aNil)) aNil)))
    (sSeq (sIf (mOr (mNot (mTr (mCall (g__law_same 12) [.pl, .pl] (aCons (mCall g_models_of [.pl] (aCons (mV 3) aNil)) (aCons (mCall g__law_models [.pl] (aCons (mV 3) aNil)) aNil))))) (mNot (mTr (mCall g__law_are_judged [.mu, .pl] (aCons (mV 1) (aCons (mV 3) aNil)))))) (sRet (mC (.bool false))) sNx)
    (sSeq (sKl [5] (sFor (iSeqM (mLc (iFn rng1 (aCons (mC (.int 3)) aNil)) (tName 6) tYesM m_law_5 [6])) (tName 5) m_law_8))
    (sKl [5, 6, 7, 8, 9, 10] (sFor (iFn rng1 (aCons (mC (.int 6)) aNil)) (tName 6) m_law_4)))))))
def m_law : M Fl :=
    (sSeq (sSet 1 (mCall g__law_hand [.pl] (aCons (mV 0) aNil)))
    (sSeq (sIf (mNot (mTr (mCall (g__law_same 12) [.pl, .pl] (aCons (mLst (kCons (mCall g_resolvent [.pl, .pl, .pl] (aCons (mTup (kCons (mC (.int 1)) (kCons (mC (.int 2)) kNil))) (aCons (mTup (kCons (m1 fNeg (mC (.int 1))) (kCons (mC (.int 3)) kNil))) (aCons (mC (.int 1)) aNil)))) (kCons (mCall g_resolvent [.pl, .pl, .pl] (aCons (mTup (kCons (mC (.int 1)) (kCons (mC (.int 2)) kNil))) (aCons (mTup (kCons (m1 fNeg (mC (.int 1))) (kCons (m1 fNeg (mC (.int 2))) kNil))) (aCons (mC (.int 1)) aNil)))) (kCons (mCall g_resolvent [.pl, .pl, .pl] (aCons (mTup (kCons (mC (.int 1)) kNil)) (aCons (mTup (kCons (m1 fNeg (mC (.int 1))) kNil)) (aCons (mC (.int 1)) aNil)))) kNil)))) (aCons (mLst (kCons (mTup (kCons (mC (.int 2)) (kCons (mC (.int 3)) kNil))) (kCons (mC .none) (kCons (mTup kNil) kNil)))) aNil))))) (sRet (mC (.bool false))) sNx)
    (sSeq (sIf (mNot (mTr (mCall (g__law_same 12) [.pl, .pl] (aCons (mLst (kCons (mCall g_models_of [.pl] (aCons (mTup (kCons (mTup (kCons (mC (.int 1)) kNil)) (kCons (mTup (kCons (m1 fNeg (mC (.int 2))) kNil)) kNil))) aNil)) (kCons (mCall g_models_of [.pl] (aCons (mTup kNil) aNil)) (kCons (mCall g_models_of [.pl] (aCons (mTup (kCons (mTup kNil) kNil)) aNil)) (kCons (mCall g_broken [.pl, .pl] (aCons (mTup (kCons (mTup (kCons (mC (.int 1)) kNil)) (kCons (mTup (kCons (m1 fNeg (mC (.int 1))) (kCons (mC (.int 2)) kNil))) kNil))) (aCons (mTup (kCons (mC (.int 0)) (kCons (mC (.int 0)) kNil))) aNil))) kNil))))) (aCons (mLst (kCons (mLst (kCons (mTup (kCons (mC (.int 1)) (kCons (mC (.int 0)) kNil))) kNil)) (kCons (mLst (kCons (mTup kNil) kNil)) (kCons (mLst kNil) (kCons (mTup (kCons (mC (.int 0)) kNil)) kNil))))) aNil))))) (sRet (mC (.bool false))) sNx)
    (sSeq (sKl [2, 3, 4, 5, 6, 7, 8, 9, 10] (sFor (iFn rng1 (aCons (mC (.int 4)) aNil)) (tName 2) m_law_9))
    (sRet (mC (.bool true)))))))
def g_law : List D → FR := runD [.pl] 13 m_law
theorem ok_law (h : Hs K mg base fa fdd tb) : FnG P w K mg base 15 (fa 35) (fdd 35) ["script"] (spV K cn tb [.pl] g_law) :=
  fn_okG h.F35 sc_law rfl (by decide) fun cdv A outer s H E F hcd hr hcn htb tk => by
    subst hcn htb
    have sc := sc_law
    exact (qss_cons (qs_set (i := 1) sc.nd rfl loc_of (qe_callG ((ok__law_hand h).mono (by decide)) hr rfl h.G16 h.F16.kp (b__law_hand h) tk (qa_cons (qv 0) qa_nil)))
    (qss_cons (qs_if (qt_not (qt_tru (qe_callG ((ok__law_same h 12).mono (by decide)) hr rfl h.G20 h.F20.kp (b__law_same h) tk (qa_cons (qe_lst (qk_cons (qe_callG ((ok_resolvent h).mono (by decide)) hr rfl h.G15 h.F15.kp (b_resolvent h) tk (qa_cons (qe_tup (qk_cons qe_int (qk_cons qe_int qk_nil))) (qa_cons (qe_tup (qk_cons (qe_un un_neg p_neg qe_int) (qk_cons qe_int qk_nil))) (qa_cons qe_int qa_nil)))) (qk_cons (qe_callG ((ok_resolvent h).mono (by decide)) hr rfl h.G15 h.F15.kp (b_resolvent h) tk (qa_cons (qe_tup (qk_cons qe_int (qk_cons qe_int qk_nil))) (qa_cons (qe_tup (qk_cons (qe_un un_neg p_neg qe_int) (qk_cons (qe_un un_neg p_neg qe_int) qk_nil))) (qa_cons qe_int qa_nil)))) (qk_cons (qe_callG ((ok_resolvent h).mono (by decide)) hr rfl h.G15 h.F15.kp (b_resolvent h) tk (qa_cons (qe_tup (qk_cons qe_int qk_nil)) (qa_cons (qe_tup (qk_cons (qe_un un_neg p_neg qe_int) qk_nil)) (qa_cons qe_int qa_nil)))) qk_nil)))) (qa_cons (qe_lst (qk_cons (qe_tup (qk_cons qe_int (qk_cons qe_int qk_nil))) (qk_cons qe_non (qk_cons (qe_tup qk_nil) qk_nil)))) qa_nil))))) (qss_one (qs_ret qe_bl)) qss_nil)
    (qss_cons (qs_if (qt_not (qt_tru (qe_callG ((ok__law_same h 12).mono (by decide)) hr rfl h.G20 h.F20.kp (b__law_same h) tk (qa_cons (qe_lst (qk_cons (qe_callG ((ok_models_of h).mono (by decide)) hr rfl h.G12 h.F12.kp (b_models_of h) tk (qa_cons (qe_tup (qk_cons (qe_tup (qk_cons qe_int qk_nil)) (qk_cons (qe_tup (qk_cons (qe_un un_neg p_neg qe_int) qk_nil)) qk_nil))) qa_nil)) (qk_cons (qe_callG ((ok_models_of h).mono (by decide)) hr rfl h.G12 h.F12.kp (b_models_of h) tk (qa_cons (qe_tup qk_nil) qa_nil)) (qk_cons (qe_callG ((ok_models_of h).mono (by decide)) hr rfl h.G12 h.F12.kp (b_models_of h) tk (qa_cons (qe_tup (qk_cons (qe_tup qk_nil) qk_nil)) qa_nil)) (qk_cons (qe_callG ((ok_broken h).mono (by decide)) hr rfl h.G11 h.F11.kp (b_broken h) tk (qa_cons (qe_tup (qk_cons (qe_tup (qk_cons qe_int qk_nil)) (qk_cons (qe_tup (qk_cons (qe_un un_neg p_neg qe_int) (qk_cons qe_int qk_nil))) qk_nil))) (qa_cons (qe_tup (qk_cons qe_int (qk_cons qe_int qk_nil))) qa_nil))) qk_nil))))) (qa_cons (qe_lst (qk_cons (qe_lst (qk_cons (qe_tup (qk_cons qe_int (qk_cons qe_int qk_nil))) qk_nil)) (qk_cons (qe_lst (qk_cons (qe_tup qk_nil) qk_nil)) (qk_cons (qe_lst qk_nil) (qk_cons (qe_tup (qk_cons qe_int qk_nil)) qk_nil))))) qa_nil))))) (qss_one (qs_ret qe_bl)) qss_nil)
    (qss_cons (qs_kl [2, 3, 4, 5, 6, 7, 8, 9, 10] (qs_for (passes_of rfl) rfl (qi_range1 rfl h.B_range (qa_cons qe_int qa_nil)) (qg_name sc.nd rfl loc_of) (qss_kl [2, 3, 4, 5, 6, 7, 8, 9, 10] (qss_cons (qs_set (i := 3) sc.nd rfl loc_of (qe_callG ((ok__law_clauses h).mono (by decide)) hr rfl h.G23 h.F23.kp (b__law_clauses h) tk (qa_cons (qv 1) qa_nil)))
    (qss_cons (qs_set (i := 4) sc.nd rfl loc_of (qe_callG ((ok__law_worlds h).mono (by decide)) hr rfl h.G26 h.F26.kp (b__law_worlds h) tk (qa_cons (qe_callG ((ok__law_many h).mono (by decide)) hr rfl h.G24 h.F24.kp (b__law_many h) tk (qa_cons (qv 3) qa_nil)) qa_nil)))
    (qss_cons (qs_if (qt_w (qw_or (qt_not (qt_tru (qe_callG ((ok__law_same h 12).mono (by decide)) hr rfl h.G20 h.F20.kp (b__law_same h) tk (qa_cons (qe_callG ((ok_models_of h).mono (by decide)) hr rfl h.G12 h.F12.kp (b_models_of h) tk (qa_cons (qv 3) qa_nil)) (qa_cons (qe_callG ((ok__law_models h).mono (by decide)) hr rfl h.G28 h.F28.kp (b__law_models h) tk (qa_cons (qv 3) qa_nil)) qa_nil))))) (qw_or1 (qt_not (qt_tru (qe_callG ((ok__law_are_judged h).mono (by decide)) hr rfl h.G34 h.F34.kp (b__law_are_judged h) tk (qa_cons (qv 1) (qa_cons (qv 3) qa_nil)))))))) (qss_one (qs_ret qe_bl)) qss_nil)
    (qss_cons (qs_kl [5] (qs_for (passes_of rfl) rfl (qi_seq (qe_lc (own := [("again", 6)]) rfl sc.nd (qi_range1 rfl h.B_range (qa_cons qe_int qa_nil)) (blkOk_by (by kernel_rfl)) (by decide) (fun _ _ _ _ _ => (qg_name sc.nd rfl loc_of)) (fun _ _ _ _ _ => qts_nil) (fun _ _ _ _ _ => (qe_callG ((ok__law_any h).mono (by decide)) hr rfl h.G18 h.F18.kp (b__law_any h) LamX.takes0 (qa_cons (qv 1) (qa_cons (qv 4) qa_nil)))))) (qg_name sc.nd rfl loc_of) (qss_kl [5] (qss_one (qs_if (qt_not (qt_tru (qe_callG ((ok__law_same h 12).mono (by decide)) hr rfl h.G20 h.F20.kp (b__law_same h) tk (qa_cons (qe_callG ((ok_broken h).mono (by decide)) hr rfl h.G11 h.F11.kp (b_broken h) tk (qa_cons (qv 3) (qa_cons (qv 5) qa_nil))) (qa_cons (qe_callTy call_tuple_of p_tuple rfl h.B_tuple rfl (qa_cons (qe_lc (own := [("at", 13), ("one", 9)]) rfl sc.nd (qi_enum rfl h.B_enumerate (qki_cons (qv 3) qki_nil)) (blkOk_by (by kernel_rfl)) (by decide) (fun _ _ _ _ _ => (qg_tup rfl (qgs_cons (qg_name sc.nd rfl loc_of) (qgs_cons (qg_name sc.nd rfl loc_of) qgs_nil)) (ts_lenS (ts_lenS ts_len0)))) (fun _ _ _ _ _ => (qts_one (qt_tru (qe_callG ((ok__law_breaks h).mono (by decide)) hr rfl h.G27 h.F27.kp (b__law_breaks h) LamX.takes0 (qa_cons (qv 9) (qa_cons (qv 5) qa_nil)))))) (fun _ _ _ _ _ => (qv 13))) qa_nil)) qa_nil))))) (qss_one (qs_ret qe_bl)) qss_nil)))))
    (qss_one (qs_kl [5, 6, 7, 8, 9, 10] (qs_for (passes_of rfl) rfl (qi_range1 rfl h.B_range (qa_cons qe_int qa_nil)) (qg_name sc.nd rfl loc_of) (qss_kl [5, 6, 7, 8, 9, 10] (qss_cons (qs_asg (qe_lc (own := [("pick", 11)]) rfl sc.nd (qi_range1 rfl h.B_range (qa_cons qe_int qa_nil)) (blkOk_by (by kernel_rfl)) (by decide) (fun _ _ _ _ _ => (qg_name sc.nd rfl loc_of)) (fun _ _ _ _ _ => qts_nil) (fun _ _ _ _ _ => (qe_callG ((ok__law_any h).mono (by decide)) hr rfl h.G18 h.F18.kp (b__law_any h) LamX.takes0 (qa_cons (qv 1) (qa_cons (qe_op o_add p_add (qe_callTy call_list_of p_list rfl h.B_list rfl (qa_cons (qv 3) qa_nil)) (qe_lst (qk_cons (qe_callG ((ok__law_clause h).mono (by decide)) hr rfl h.G22 h.F22.kp (b__law_clause h) LamX.takes0 (qa_cons (qv 1) (qa_cons qe_int (qa_cons qe_int qa_nil)))) qk_nil))) qa_nil))))) (qg_lst rfl (qgs_cons (qg_name sc.nd rfl loc_of) (qgs_cons (qg_name sc.nd rfl loc_of) qgs_nil)) (ts_lenS (ts_lenS ts_len0))))
    (qss_cons (qs_set (i := 7) sc.nd rfl loc_of (qe_callG ((ok__law_any h).mono (by decide)) hr rfl h.G18 h.F18.kp (b__law_any h) tk (qa_cons (qv 1) (qa_cons (qe_op o_add p_add (qe_lc (own := [("part", 12)]) rfl sc.nd (qi_seq (qv 9)) (blkOk_by (by kernel_rfl)) (by decide) (fun _ _ _ _ _ => (qg_name sc.nd rfl loc_of)) (fun _ _ _ _ _ => qts_nil) (fun _ _ _ _ _ => (qe_callB call_abs p_abs rfl h.B_abs rfl (qa_cons (qv 12) qa_nil)))) (qe_lst (qk_cons qe_int (qk_cons qe_int (qk_cons qe_int qk_nil))))) qa_nil))))
    (qss_cons (qs_set (i := 8) sc.nd rfl loc_of (qe_callG ((ok__law_resolved h).mono (by decide)) hr rfl h.G30 h.F30.kp (b__law_resolved h) tk (qa_cons (qv 9) (qa_cons (qv 10) (qa_cons (qv 7) qa_nil)))))
    (qss_cons (qs_if (qt_not (qt_tru (qe_callG ((ok__law_same h 12).mono (by decide)) hr rfl h.G20 h.F20.kp (b__law_same h) tk (qa_cons (qe_callG ((ok_resolvent h).mono (by decide)) hr rfl h.G15 h.F15.kp (b_resolvent h) tk (qa_cons (qv 9) (qa_cons (qv 10) (qa_cons (qv 7) qa_nil)))) (qa_cons (qv 8) qa_nil))))) (qss_one (qs_ret qe_bl)) qss_nil)
    (qss_one (qs_kl [5] (qs_if (qt_cmp o_isNot p_isNot (qv 8) qe_non (nomark _)) (qss_one (qs_kl [5] (qs_for (passes_of rfl) rfl (qi_seq (qe_callG ((ok__law_worlds h).mono (by decide)) hr rfl h.G26 h.F26.kp (b__law_worlds h) tk (qa_cons (qe_callG ((ok__law_many h).mono (by decide)) hr rfl h.G24 h.F24.kp (b__law_many h) tk (qa_cons (qe_tup (qk_cons (qv 9) (qk_cons (qv 10) qk_nil))) qa_nil)) qa_nil))) (qg_name sc.nd rfl loc_of) (qss_kl [5] (qss_one (qs_if (qt_w (qw_and (qt_tru (qe_callG ((ok__law_breaks h).mono (by decide)) hr rfl h.G27 h.F27.kp (b__law_breaks h) tk (qa_cons (qv 8) (qa_cons (qv 5) qa_nil)))) (qw_and (qt_not (qt_tru (qe_callG ((ok__law_breaks h).mono (by decide)) hr rfl h.G27 h.F27.kp (b__law_breaks h) tk (qa_cons (qv 9) (qa_cons (qv 5) qa_nil))))) (qw_and1 (qt_not (qt_tru (qe_callG ((ok__law_breaks h).mono (by decide)) hr rfl h.G27 h.F27.kp (b__law_breaks h) tk (qa_cons (qv 10) (qa_cons (qv 5) qa_nil))))))))) (qss_one (qs_ret qe_bl)) qss_nil)))))) qss_nil))))))))))))))))))
    (qss_one (qs_ret qe_bl))))))
end
end Wk
set_option maxHeartbeats 2000000
namespace Wk
open PySem PySem.Spec L2 Vx Lb
theorem ints_of : ∀ {ds : List D} {c : List Int}, intsD ds = some c → ds = c.map .int
  | [], _, h => by cases h; rfl
  | .int i :: ds, c, h => by
    have h : (intsD ds).map (i :: ·) = some c := h
    cases e : intsD ds with
    | none => rw [e] at h; cases h
    | some cs => rw [e] at h; cases h; rw [ints_of e]; rfl
  | .none :: _, _, h => by cases h
  | .bool _ :: _, _, h => by cases h
  | .str _ :: _, _, h => by cases h
  | .list _ :: _, _, h => by cases h
  | .tuple _ :: _, _, h => by cases h
  | .dict _ :: _, _, h => by cases h
def isI (d : D) : Bool := tyD d == "int"
theorem not_ints : ∀ {ds : List D}, intsD ds = none → ds.all isI = false
  | [], h => by cases h
  | .int i :: ds, h => by
    have h : (intsD ds).map (i :: ·) = none := h
    rw [List.all_cons, not_ints (by simpa using h), Bool.and_false]
  | .none :: _, _ => rfl
  | .bool _ :: _, _ => rfl
  | .str _ :: _, _ => rfl
  | .list _ :: _, _ => rfl
  | .tuple _ :: _, _ => rfl
  | .dict _ :: _, _ => rfl
def isW : D → Bool
  | .int x => decide (-12 ≤ x) && decide (x ≤ 12)
  | _ => false
theorem isW_isI {d : D} (h : isW d = true) : isI d = true := by cases d <;> first | rfl | cases h
theorem not_W {ds : List D} (h : intsD ds = none) : ds.all isW = false := by
  cases e : ds.all isW with
  | false => rfl
  | true =>
    have := not_ints h
    rw [List.all_eq_true.mpr fun d hd => isW_isI (List.all_eq_true.mp e d hd)] at this
    cases this
theorem is_within12 {d : D} (ok : okT d = true) : g_is_within [d, .int (-12), .int 12] = .ok false (.bool (isW d)) [] := by
  by_cases h : tyD d = "int"
  · cases d with
    | int x => exact is_within _ _ _
    | none => exact absurd h (by simp [tyD])
    | bool _ => exact absurd h (by simp [tyD])
    | str _ => exact absurd h (by simp [tyD])
    | list _ => exact absurd h (by simp [tyD])
    | tuple _ => exact absurd h (by simp [tyD])
    | dict _ => exact absurd h (by simp [tyD])
  · rw [is_within_no d _ _ h ok]
    cases d <;> first | rfl | exact absurd rfl h
/-- a clause, of any thing -/
def clD : D → Bool
  | .tuple ds => (match intsD ds with
    | some c => clB c
    | none => false)
  | _ => false
/-- what can be judged -/
structure JOk (d : D) : Prop where
  ok : okT d = true
  it : ∀ ds, d = .tuple ds → ds.length ≤ 1000 ∧ ∀ x ∈ ds, okT x = true
theorem k1000 : 1000 ≤ sizeLine := by decide
theorem is_clause_any {d : D} (j : JOk d) : g_is_clause [d] = .ok false (.bool (clD d)) [] := by
  cases d with
  | tuple ds =>
    obtain ⟨hz, hi⟩ := j.it ds rfl
    cases q : intsD ds with
    | some c =>
      have := ints_of q
      subst this
      rw [is_clause_eq (by rw [List.length_map] at hz; exact Nat.le_trans hz k1000)]
      simp only [clD, q]
    | none =>
      have c1 : mLc (iSeqM (mV 0)) (tName 1) tYesM m_is_clause_2 [1] [.cl (.tuple ds), .un, .un] = .ok (.fr (.list (ds.map fun d => .bool (isW d)))) [.cl (.tuple ds), .un, .un] :=
        mLc_map _ (by simp -implicitDefEqProofs) rfl (Nat.le_trans hz k1000) fun d hd => by
          have e := is_within12 (hi d hd)
          simp -implicitDefEqProofs [m_is_clause_2, neg12, e]
      have a1 := fAll_map isW ds
      rw [not_W q] at a1
      simp -implicitDefEqProofs [g_is_clause, runD, m_is_clause, c1, a1, clD, q]
  | dict ks =>
    have ok : plainK ks = true := j.ok
    simp -implicitDefEqProofs [g_is_clause, runD, m_is_clause, clD, ok]
  | _ => simp -implicitDefEqProofs [g_is_clause, runD, m_is_clause, clD]
theorem law_is_integer (d : D) (h : okT d = true) : g__law_is_integer [d] = .ok false (.bool (isI d)) [] := by
  cases d with
  | dict ks =>
    have h : plainK ks = true := h
    simp [g__law_is_integer, runD, m__law_is_integer, h, isI]
  | _ => rfl
theorem clB_own (c : List Int) : clB c = ((c.all fun x => !decide (x = 0) && decide (absI x ≤ 12)) && (c.zip c.tail).all fun q => decide (absI q.1 < absI q.2)) := by
  unfold clB
  congr 1
  induction c with
  | nil => rfl
  | cons x c ih =>
    rw [List.all_cons, List.all_cons, ← ih, Bool.eq_iff_iff]
    unfold absI
    simp only [Bool.and_eq_true, decide_eq_true_eq, Bool.not_eq_true', decide_eq_false_iff_not, List.mem_cons, not_or]
    constructor
    · rintro ⟨⟨⟨h1, h2⟩, h3⟩, h4, h5⟩
      exact ⟨⟨fun e => h4 e.symm, by split <;> omega⟩, h3, h5⟩
    · rintro ⟨⟨h1, h2⟩, h3, h5⟩
      exact ⟨⟨⟨by split at h2 <;> omega, by split at h2 <;> omega⟩, h3⟩, fun e => h1 e.symm, h5⟩
theorem law_is_clause {d : D} (j : JOk d) : g__law_is_clause [d] = .ok false (.bool (clD d)) [] := by
  cases d with
  | tuple ds =>
    obtain ⟨hz, hi⟩ := j.it ds rfl
    have c1 : mLc (iSeqM (mV 0)) (tName 1) tYesM m__law_is_clause_3 [1] [.cl (.tuple ds), .un, .un] = .ok (.fr (.list (ds.map fun d => .bool (isI d)))) [.cl (.tuple ds), .un, .un] :=
      mLc_map _ (by simp -implicitDefEqProofs) rfl (Nat.le_trans hz k1000) fun d hd => by
        have e := law_is_integer d (hi d hd)
        simp -implicitDefEqProofs [m__law_is_clause_3, e]
    have a1 := fAll_map isI ds
    cases q : intsD ds with
    | none =>
      rw [not_ints q] at a1
      simp -implicitDefEqProofs [g__law_is_clause, runD, m__law_is_clause, c1, a1, clD, q]
    | some c =>
      have := ints_of q
      subst this
      have hz' : c.length ≤ sizeLine := by rw [List.length_map] at hz; exact Nat.le_trans hz k1000
      have t1 : (c.map PyData.int).all isI = true := by
        rw [List.all_eq_true]
        intro d hd
        obtain ⟨i, _, rfl⟩ := List.mem_map.mp hd
        rfl
      rw [t1] at a1
      rw [List.map_map] at c1 a1
      have c2 : mLc (iSeqM (mV 0)) (tName 1) tYesM m__law_is_clause_2 [1] [.cl (encI c), .un, .un] = .ok (.fr (.list (c.map fun x => .bool (!decide (x = 0) && decide (absI x ≤ 12))))) [.cl (encI c), .un, .un] :=
        mLc_encM .int _ (by simp -implicitDefEqProofs) rfl hz' fun x _ => by
          by_cases h : x = 0 <;> simp -implicitDefEqProofs [m__law_is_clause_2, h]
      have a2 := fAll_map (fun x : Int => !decide (x = 0) && decide (absI x ≤ 12)) c
      have e2 : zipD (c.map .int) (cutD (c.map .int) (some 1) none) = (c.zip c.tail).map fun q => .tuple [.int q.1, .int q.2] := by
        rw [cut_1, ← List.map_drop, zip_enc, List.drop_one]
      have c3 : mLc (iFnK zp (kiCons (mV 0) (kiCons (mSl fSl (mV 0) (bAt (mC (.int 1))) bNo) kiNil))) (Vx.tTup (tsCons (tName 1) (tsCons (tName 2) tsNil))) tYesM m__law_is_clause_1 [1, 2] [.cl (encI c), .un, .un] = .ok (.fr (.list ((c.zip c.tail).map fun q => .bool (decide (absI q.1 < absI q.2))))) [.cl (encI c), .un, .un] :=
        mLc_enc2M .int .int _ (by simp -implicitDefEqProofs [e2]) (by decide) rfl rfl (by rw [List.length_zip]; omega) fun q _ => by
          simp -implicitDefEqProofs [m__law_is_clause_1]
      have a3 := fAll_map (fun q : Int × Int => decide (absI q.1 < absI q.2)) (c.zip c.tail)
      have eb := clB_own c
      generalize (c.all fun x => !decide (x = 0) && decide (absI x ≤ 12)) = b1 at a2 eb
      generalize ((c.zip c.tail).all fun q => decide (absI q.1 < absI q.2)) = b3 at a3 eb
      simp only [clD, q, eb]
      cases b1
      · simp -implicitDefEqProofs [g__law_is_clause, runD, m__law_is_clause, c1, a1, c2, a2]
      · simp -implicitDefEqProofs [g__law_is_clause, runD, m__law_is_clause, c1, a1, c2, a2, c3, a3]
  | dict ks =>
    have ok : plainK ks = true := j.ok
    simp -implicitDefEqProofs [g__law_is_clause, runD, m__law_is_clause, clD, ok]
  | _ => simp -implicitDefEqProofs [g__law_is_clause, runD, m__law_is_clause, clD]
/-- clauses, of any thing -/
def clsD : D → Bool
  | .tuple ds => decide (ds.length ≤ 80) && ds.all clD
  | _ => false
structure JsOk (d : D) : Prop where
  ok : okT d = true
  it : ∀ ds, d = .tuple ds → ds.length ≤ 1000 ∧ ∀ x ∈ ds, JOk x
theorem is_clauses_any {d : D} (j : JsOk d) : g_is_clauses [d] = .ok false (.bool (clsD d)) [] := by
  cases d with
  | tuple ds =>
    obtain ⟨hz, hi⟩ := j.it ds rfl
    have c1 : mLc (iSeqM (mV 0)) (tName 1) tYesM m_is_clauses_1 [1] [.cl (.tuple ds), .un] = .ok (.fr (.list (ds.map fun d => .bool (clD d)))) [.cl (.tuple ds), .un] :=
      mLc_map _ (by simp -implicitDefEqProofs) rfl (Nat.le_trans hz k1000) fun d hd => by
        have e := is_clause_any (hi d hd)
        simp -implicitDefEqProofs [m_is_clauses_1, e]
    have a1 := fAll_map clD ds
    by_cases h : (ds.length : Int) ≤ 80
    · have h2 : ds.length ≤ 80 := by omega
      have h3 : ¬ (80 : Int) < ds.length := by omega
      simp -implicitDefEqProofs [g_is_clauses, runD, m_is_clauses, c1, a1, clsD, h2, h3]
    · have h2 : ¬ ds.length ≤ 80 := by omega
      have h3 : (80 : Int) < ds.length := by omega
      simp -implicitDefEqProofs [g_is_clauses, runD, m_is_clauses, clsD, h2, h3]
  | dict ks =>
    have ok : plainK ks = true := j.ok
    simp -implicitDefEqProofs [g_is_clauses, runD, m_is_clauses, clsD, ok]
  | _ => simp -implicitDefEqProofs [g_is_clauses, runD, m_is_clauses, clsD]
end Wk
set_option maxHeartbeats 2000000
namespace Wk
open PySem PySem.Spec L2 Vx Lb
def nubA (acc l : List Int) : List Int := l.foldl (fun acc a => if a ∈ acc then acc else acc ++ [a]) acc
def nubL (l : List Int) : List Int := nubA [] l
def bothB (l : List Int) : Bool := l.any fun x => decide (-x ∈ l)
def joinO (l : List Int) : Option (List Int) := if bothB l = true then none else some (sAbs (nubL l))
def optD : Option (List Int) → D
  | none => .none
  | some c => encI c
theorem nub_cons (acc : List Int) (a : Int) (l : List Int) : nubA acc (a :: l) = nubA (if a ∈ acc then acc else acc ++ [a]) l := rfl
theorem nub_sub : ∀ (l acc : List Int), (nubA acc l).Sublist (acc ++ l)
  | [], acc => by rw [List.append_nil]; exact List.Sublist.refl _
  | a :: l, acc => by
    rw [nub_cons]
    split
    · exact (nub_sub l acc).trans (List.Sublist.append_left (List.sublist_cons_self _ _) _)
    · have := nub_sub l (acc ++ [a])
      rwa [List.append_assoc] at this
theorem nub_mem {x : Int} : ∀ (l acc : List Int), x ∈ nubA acc l ↔ x ∈ acc ∨ x ∈ l
  | [], acc => by simp [nubA]
  | a :: l, acc => by
    rw [nub_cons, nub_mem l]
    split
    · rename_i h
      constructor
      · rintro (q | q)
        · exact .inl q
        · exact .inr (List.mem_cons_of_mem _ q)
      · rintro (q | q)
        · exact .inl q
        · rcases List.mem_cons.mp q with e | q
          · exact .inl (e ▸ h)
          · exact .inr q
    · rw [List.mem_append, List.mem_singleton, List.mem_cons, or_assoc]
theorem nub_nodup : ∀ (l acc : List Int), acc.Nodup → (nubA acc l).Nodup
  | [], _, h => h
  | a :: l, acc, h => by
    rw [nub_cons]
    refine nub_nodup l _ ?_
    split
    · exact h
    · rename_i q
      exact List.nodup_append.mpr ⟨h, by simp, fun x hx y hy e => q (by rw [List.mem_singleton] at hy; rw [← hy, ← e]; exact hx)⟩
theorem nubL_mem {l : List Int} {x : Int} : x ∈ nubL l ↔ x ∈ l := by
  unfold nubL; rw [nub_mem]; simp
theorem nubL_nodup (l : List Int) : (nubL l).Nodup := nub_nodup l [] (by simp)
theorem nubL_len (l : List Int) : (nubL l).length ≤ l.length := (nub_sub l []).length_le
theorem putD_old {acc : List Int} {i : Int} (h : i ∈ acc) (y : D) : putD (acc.map fun i => (PyData.int i, y)) (.inl i) y = acc.map fun i => (PyData.int i, y) := by
  unfold putD
  rw [if_pos (List.any_eq_true.mpr ⟨(.int i, y), List.mem_map.mpr ⟨i, h, rfl⟩, decide_eq_true rfl⟩), List.map_map]
  refine List.map_congr_left fun j _ => ?_
  show (if _ then (PyData.int j, y) else (PyData.int j, y)) = _
  split <;> rfl
theorem dcI_nub {v : Nat} {ke e : M Op} {ρ1 : Ev} (y : D) (hw : wipable ρ1[v]? = true) : ∀ (l acc : List Int) (ρ : Ev), unS ρ [v] = unS ρ1 [v] → acc.length + l.length ≤ sizeLine →
    (∀ a ∈ l, mK ke (ρ1.set v (.cl (.int a))) = .ok (.int a) (ρ1.set v (.cl (.int a))) ∧ mK e (ρ1.set v (.cl (.int a))) = .ok y (ρ1.set v (.cl (.int a)))) →
    ∃ ρ', dcI (tName v) tYesM ke e [v] (l.map .int) (acc.map fun i => (PyData.int i, y)) ρ = .ok ((nubA acc l).map fun i => (PyData.int i, y)) ρ' ∧ unS ρ' [v] = unS ρ1 [v]
  | [], acc, ρ, hu, _, _ => ⟨ρ, by rw [List.map_nil]; unfold dcI; rfl, hu⟩
  | a :: l, acc, ρ, hu, hz, h => by
    obtain ⟨h1, h2⟩ := h a List.mem_cons_self
    rw [List.map_cons]
    unfold dcI
    rw [hu, (set1 hw).1]
    dsimp only
    rw [ev_Yes]
    dsimp only
    rw [h1]
    dsimp only
    rw [h2]
    dsimp only
    have kd : keyD (.int a) = some (.inl a) := rfl
    rw [kd]
    dsimp only
    have hz : acc.length + (l.length + 1) ≤ sizeLine := hz
    rw [List.length_map, if_pos (by omega), nub_cons]
    by_cases q : a ∈ acc
    · rw [putD_old q, if_pos q]
      exact dcI_nub (v := v) (ke := ke) (e := e) y hw l acc (ρ1.set v (.cl (.int a))) (set1 hw).2 (by omega) fun x hx => h x (List.mem_cons_of_mem _ hx)
    · rw [putD_new q, if_neg q]
      exact dcI_nub (v := v) (ke := ke) (e := e) y hw l (acc ++ [a]) (ρ1.set v (.cl (.int a))) (set1 hw).2 (by rw [List.length_append]; exact (by simp; omega)) fun x hx => h x (List.mem_cons_of_mem _ hx)
theorem mDc_nub {it : M (List D)} {v : Nat} {ke e : M Op} {ρ ρ1 : Ev} {l : List Int} (y : D) (hi : it ρ = .ok (l.map .int) ρ1) (hw : wipable ρ1[v]? = true) (hz : l.length ≤ sizeLine)
    (h : ∀ a ∈ l, mK ke (ρ1.set v (.cl (.int a))) = .ok (.int a) (ρ1.set v (.cl (.int a))) ∧ mK e (ρ1.set v (.cl (.int a))) = .ok y (ρ1.set v (.cl (.int a)))) :
    mDc it (tName v) tYesM ke e [v] ρ = .ok (.fr (.dict ((nubL l).map fun i => (PyData.int i, y)))) ρ1 := by
  obtain ⟨ρ', q1, q2⟩ := dcI_nub (v := v) (ke := ke) (e := e) y hw l [] ρ1 rfl (by simpa using hz) h
  unfold mDc
  rw [hi, Rs.bind_ok, if_pos (by simp [hw])]
  have q1 : dcI (tName v) tYesM ke e [v] (l.map .int) [] ρ1 = .ok ((nubL l).map fun i => (PyData.int i, y)) ρ' := q1
  rw [q1]
  dsimp only
  rw [bkS_same q2]
theorem both_congr {a b : List Int} (h : ∀ x, x ∈ a ↔ x ∈ b) : bothB a = bothB b := by
  rw [Bool.eq_iff_iff]
  unfold bothB
  simp only [List.any_eq_true, decide_eq_true_eq, h]
theorem abs_two {x y : Int} (e : absI x = absI y) : y = x ∨ y = -x := by
  unfold absI at e
  split at e <;> split at e <;> omega
theorem up_inj {t : List Int} (u : t.Pairwise fun a b => absI a < absI b) {x y : Int} (hx : x ∈ t) (hy : y ∈ t) (e : absI x = absI y) : x = y := by
  induction t with
  | nil => cases hx
  | cons a t ih =>
    obtain ⟨u1, u2⟩ := List.pairwise_cons.mp u
    rcases List.mem_cons.mp hx with rfl | hx' <;> rcases List.mem_cons.mp hy with rfl | hy'
    · rfl
    · have := u1 y hy'; omega
    · have := u1 x hx'; omega
    · exact ih u2 hx' hy'
theorem zip_tail_of {R : Int → Int → Prop} : ∀ {t : List Int}, t.Pairwise R → ∀ q ∈ t.zip t.tail, R q.1 q.2
  | [], _, _, h => by cases h
  | [_], _, _, h => by cases h
  | a :: b :: t, h, q, hq => by
    obtain ⟨h1, h2⟩ := List.pairwise_cons.mp h
    rcases List.mem_cons.mp hq with e | hq
    · subst e; exact h1 b List.mem_cons_self
    · exact zip_tail_of h2 q hq
theorem up_of_zip : ∀ {t : List Int}, t.Pairwise (fun a b => absI a ≤ absI b) → ((t.zip t.tail).any fun q => decide (absI q.1 = absI q.2)) = false → t.Pairwise fun a b => absI a < absI b
  | [], _, _ => .nil
  | [_], _, _ => by simp
  | a :: b :: t, h, hz => by
    obtain ⟨h1, h2⟩ := List.pairwise_cons.mp h
    have hz : (decide (absI a = absI b) || (((b :: t).zip t).any fun q => decide (absI q.1 = absI q.2))) = false := hz
    rw [Bool.or_eq_false_iff] at hz
    have ih := up_of_zip h2 hz.2
    have ne := of_decide_eq_false hz.1
    have le := h1 b List.mem_cons_self
    refine List.pairwise_cons.mpr ⟨fun y hy => ?_, ih⟩
    rcases List.mem_cons.mp hy with rfl | hy
    · omega
    · have := (List.pairwise_cons.mp ih).1 y hy; omega
theorem adj_both {t : List Int} (n : t.Nodup) (s : t.Pairwise fun a b => absI a ≤ absI b) (h0 : ∀ x ∈ t, x ≠ 0) : ((t.zip t.tail).any fun q => decide (absI q.1 = absI q.2)) = bothB t := by
  cases e : (t.zip t.tail).any fun q => decide (absI q.1 = absI q.2) with
  | false =>
    have u := up_of_zip s e
    symm
    unfold bothB
    rw [List.any_eq_false]
    intro x hx q
    have m : -x ∈ t := of_decide_eq_true q
    have := up_inj u hx m (Lb.absI_neg x).symm
    have := h0 x hx
    omega
  | true =>
    obtain ⟨q, hq, ea⟩ := List.any_eq_true.mp e
    have ea := of_decide_eq_true ea
    have ne : q.1 ≠ q.2 := zip_tail_of (R := fun a b => a ≠ b) n q hq
    have m1 : q.1 ∈ t := List.of_mem_zip (a := q.1) (b := q.2) hq |>.1
    have m2 : q.2 ∈ t := List.mem_of_mem_tail (List.of_mem_zip (a := q.1) (b := q.2) hq |>.2)
    rcases abs_two ea with e1 | e1
    · exact absurd e1.symm ne
    · symm
      exact List.any_eq_true.mpr ⟨q.1, m1, decide_eq_true (e1 ▸ m2)⟩
theorem nub_diff {l : List Int} (hb : bothB l = false) : (nubL l).Pairwise fun a b => absI a ≠ absI b := by
  refine (nubL_nodup l).imp_of_mem fun {a b} ha hb' ne e => ?_
  have ha := nubL_mem.mp ha
  have hb' := nubL_mem.mp hb'
  rcases abs_two e with q | q
  · exact ne q.symm
  · exact (List.any_eq_false.mp hb) a ha (decide_eq_true (q ▸ hb'))
theorem joined_any {l : List Int} (hz : l.length ≤ 100) (h0 : ∀ x ∈ l, x ≠ 0) : g_joined [.list (l.map .int)] = .ok false (optD (joinO l)) [] := by
  have hs : l.length ≤ sizeLine := Nat.le_trans hz (by decide)
  have d1 : mDc (iSeqM (mV 0)) (tName 2) tYesM m_joined_2 m_joined_3 [2] [.bo (.list (l.map .int)), .un, .un, .un] = .ok (.fr (.dict ((nubL l).map fun i => (PyData.int i, PyData.bool true)))) [.bo (.list (l.map .int)), .un, .un, .un] :=
    mDc_nub _ (by simp -implicitDefEqProofs) rfl hs fun a _ => ⟨by simp -implicitDefEqProofs [m_joined_2], by simp -implicitDefEqProofs [m_joined_3]⟩
  have s1 := srt_absP (l := nubL l) (Nat.le_trans (nubL_len l) hs) (itK_keys (nubL l) (.bool true))
  have p : (sAbsP (nubL l)).Perm (nubL l) := List.mergeSort_perm _ _
  have so : (sAbsP (nubL l)).Pairwise fun a b => absI a ≤ absI b := (List.pairwise_mergeSort (le := fun a b => decide (absI a < absI b ∨ (absI a = absI b ∧ a ≤ b))) (fun a b c h1 h2 => by simp only [decide_eq_true_eq] at *; omega) (fun a b => by simp only [Bool.or_eq_true, decide_eq_true_eq]; omega) (nubL l)).imp fun h => by have := of_decide_eq_true h; omega
  have ab := adj_both (p.symm.nodup (nubL_nodup l)) so fun x hx => h0 x (nubL_mem.mp (p.mem_iff.mp hx))
  rw [both_congr (b := l) fun x => by rw [p.mem_iff, nubL_mem]] at ab
  have zl : (sAbsP (nubL l)).length ≤ 100 := by rw [p.length_eq]; exact Nat.le_trans (nubL_len l) hz
  have fin : bothB l = false → sAbsP (nubL l) = sAbs (nubL l) := fun h => sAbs_eq (nub_diff h)
  unfold joinO
  generalize sAbsP (nubL l) = t at *
  have ct : cutD (t.map PyData.int) (some 1) none = (t.tail).map .int := by
    have := cut_from (t.map PyData.int) 1
    rw [← List.map_drop, List.drop_one] at this
    exact this
  have zz := zip_enc PyData.int PyData.int t t.tail
  have c1 : mLc (iFnK zp (kiCons (mV 1) (kiCons (mSl fSl (mV 1) (bAt (mC (.int 1))) bNo) kiNil))) (Vx.tTup (tsCons (tName 2) (tsCons (tName 3) tsNil))) tYesM m_joined_1 [2, 3] [.bo (.list (l.map .int)), .ow (.list (t.map .int)), .un, .un] = .ok (.fr (.list ((t.zip t.tail).map fun q => .bool (decide (absI q.1 = absI q.2))))) [.bo (.list (l.map .int)), .cl (.list (t.map .int)), .un, .un] :=
    mLc_enc2M .int .int _ (by rw [← zz]; simp -implicitDefEqProofs [ct]) (by decide) rfl rfl (by rw [List.length_zip]; exact Nat.le_trans (show _ ≤ 100 by omega) (by decide)) fun q _ => by simp -implicitDefEqProofs [m_joined_1]
  have a1 := fAny_map (fun q : Int × Int => decide (absI q.1 = absI q.2)) (t.zip t.tail)
  rw [ab] at a1
  cases hb : bothB l with
  | true =>
    rw [hb] at a1
    simp -implicitDefEqProofs [g_joined, runD, m_joined, d1, s1, c1, a1, optD]
  | false =>
    rw [hb] at a1
    rw [← fin hb]
    simp -implicitDefEqProofs [g_joined, runD, m_joined, d1, s1, c1, a1, optD]
/-- the law's own way -/
def lawJ : List Int → List Int → Option (List Int)
  | acc, [] => some acc
  | acc, x :: r => if -x ∈ acc then none else lawJ (if x ∈ acc then acc else acc ++ [x]) r
theorem lawJ_eq : ∀ (r acc : List Int), bothB acc = false → (∀ x ∈ r, x ≠ 0) → lawJ acc r = if bothB (acc ++ r) = true then none else some (nubA acc r)
  | [], acc, h, _ => by
    rw [List.append_nil, if_neg (by rw [h]; decide)]; rfl
  | x :: r, acc, h, h0 => by
    unfold lawJ
    have x0 := h0 x List.mem_cons_self
    by_cases m : -x ∈ acc
    · rw [if_pos m, if_pos]
      exact List.any_eq_true.mpr ⟨x, List.mem_append.mpr (.inr List.mem_cons_self), decide_eq_true (List.mem_append.mpr (.inl m))⟩
    · rw [if_neg m, nub_cons]
      have cg : ∀ y, y ∈ (if x ∈ acc then acc else acc ++ [x]) ++ r ↔ y ∈ acc ++ x :: r := fun y => by
        split
        · rename_i q
          simp only [List.mem_append, List.mem_cons]
          constructor
          · rintro (a | a)
            · exact .inl a
            · exact .inr (.inr a)
          · rintro (a | rfl | a)
            · exact .inl a
            · exact .inl q
            · exact .inr a
        · simp [or_assoc]
      rw [lawJ_eq r _ ?_ fun y hy => h0 y (List.mem_cons_of_mem _ hy), both_congr cg]
      split
      · exact h
      · unfold bothB
        rw [List.any_eq_false]
        intro y hy q
        have q : -y ∈ acc ++ [x] := of_decide_eq_true q
        rw [List.mem_append, List.mem_singleton] at hy q
        rcases hy with hy | rfl
        · rcases q with q | q
          · exact (List.any_eq_false.mp h) y hy (decide_eq_true q)
          · exact m (by rw [← q, Int.neg_neg]; exact hy)
        · rcases q with q | q
          · exact m q
          · omega
theorem law_joined_any {l : List Int} (hz : l.length ≤ 100) (h0 : ∀ x ∈ l, x ≠ 0) : g__law_joined [.list (l.map .int)] = .ok false (optD (joinO l)) [] := by
  have hs : l.length ≤ sizeLine := Nat.le_trans hz (by decide)
  have s1 := srt_abs hs (d := .list (l.map .int)) rfl
  have p : (sAbs l).Perm l := List.mergeSort_perm _ _
  have so : (sAbs l).Pairwise fun a b => absI a ≤ absI b := (List.pairwise_mergeSort (le := fun a b => decide (absI a ≤ absI b)) (fun a b c h1 h2 => by simp only [decide_eq_true_eq] at *; omega) (fun a b => by simp only [Bool.or_eq_true, decide_eq_true_eq]; omega) l).imp fun h => of_decide_eq_true h
  have zl : (sAbs l).length ≤ 100 := by rw [p.length_eq]; exact hz
  have le := lawJ_eq (sAbs l) [] rfl fun x hx => h0 x (p.mem_iff.mp hx)
  rw [List.nil_append, both_congr fun x => p.mem_iff] at le
  have lj : lawJ [] (sAbs l) = joinO l := by
    rw [le]
    unfold joinO
    cases hb : bothB l with
    | true => rfl
    | false =>
      rw [if_neg (by decide), if_neg (by decide)]
      congr 1
      obtain ⟨u, p2⟩ := sAbs_up (nub_diff hb)
      have hb2 : bothB (sAbs l) = false := by rw [both_congr fun x => p.mem_iff]; exact hb
      refine up_ext ?_ u (fun x hx => p2.mem_iff.mpr (nubL_mem.mpr (p.mem_iff.mp (nubL_mem.mp hx)))) fun x hx => nubL_mem.mpr (p.mem_iff.mpr (nubL_mem.mp (p2.mem_iff.mp hx)))
      have w := so.sublist (nub_sub (sAbs l) [])
      have d := nub_diff hb2
      exact (w.and d).imp fun ⟨a, b⟩ => by omega
  generalize sAbs l = t at *
  have key : ∀ (r acc : List Int) (s2 : Sl), free (some s2) = true → acc.length + r.length ≤ 100 →
      ∃ s1' s2', forI (tName 2) m__law_joined_1 (r.map .int) [.bo (.list (l.map .int)), .ow (.list (acc.map .int)), s2] = (match lawJ acc r with
        | none => .ok (.rt (.val .none)) [.bo (.list (l.map .int)), s1', s2']
        | some res => .ok .nx [.bo (.list (l.map .int)), .ow (.list (res.map .int)), s2']) := by
    intro r
    induction r with
    | nil => exact fun acc s2 _ _ => ⟨.un, s2, rfl⟩
    | cons x r ih =>
      intro acc s2 hf hz
      have hz : acc.length + (r.length + 1) ≤ 100 := hz
      rw [List.map_cons]
      unfold forI lawJ
      have et : tName 2 (.int x) [.bo (.list (l.map .int)), .ow (.list (acc.map .int)), s2] = some [.bo (.list (l.map .int)), .ow (.list (acc.map .int)), .cl (.int x)] := by
        simp -implicitDefEqProofs [hf]
      rw [et]
      dsimp only
      have f1' := fIn_IL (-x) acc
      have f2 := fNotIn_IL x acc
      have la : acc.length + 1 ≤ sizeLine := Nat.le_trans (show _ ≤ 100 by omega) (by decide)
      have la0 : acc.length ≤ sizeLine := Nat.le_trans (show _ ≤ 100 by omega) (by decide)
      by_cases m : -x ∈ acc
      · rw [if_pos m]
        have eb : m__law_joined_1 [.bo (.list (l.map .int)), .ow (.list (acc.map .int)), .cl (.int x)] = .ok (.rt (.val .none)) [.bo (.list (l.map .int)), .ow (.list (acc.map .int)), .cl (.int x)] := by
          simp -implicitDefEqProofs [m__law_joined_1, f1', m]
        rw [eb]
        exact ⟨_, _, rfl⟩
      · rw [if_neg m]
        by_cases q : x ∈ acc
        · have eb : m__law_joined_1 [.bo (.list (l.map .int)), .ow (.list (acc.map .int)), .cl (.int x)] = .ok .nx [.bo (.list (l.map .int)), .ow (.list (acc.map .int)), .cl (.int x)] := by
            simp -implicitDefEqProofs [m__law_joined_1, f1', f2, m, q, fRep_0, la0, one_size]
          rw [eb, if_pos q]
          exact ih acc _ rfl (by omega)
        · have eb : m__law_joined_1 [.bo (.list (l.map .int)), .ow (.list (acc.map .int)), .cl (.int x)] = .ok .nx [.bo (.list (l.map .int)), .ow (.list ((acc ++ [x]).map .int)), .cl (.int x)] := by
            simp -implicitDefEqProofs [m__law_joined_1, f1', f2, m, q, fRep_1, la, one_size]
          rw [eb, if_neg q]
          exact ih (acc ++ [x]) _ rfl (by rw [List.length_append]; exact (by simp; omega))
  obtain ⟨s1', s2', e⟩ := key t [] .un rfl (by simpa using zl)
  rw [lj, List.map_nil] at e
  cases q : joinO l with
  | none =>
    rw [q] at e
    simp -implicitDefEqProofs [g__law_joined, runD, m__law_joined, s1, e, optD]
  | some res =>
    rw [q] at e
    simp -implicitDefEqProofs [g__law_joined, runD, m__law_joined, s1, e, optD]
end Wk
set_option maxHeartbeats 2000000
namespace Wk
open PySem PySem.Spec L2 Vx Lb
def resL (one other : List Int) (a : Int) : List Int := one.filter (fun x => !decide (x = a)) ++ other.filter (fun x => !decide (x = -a))
def resO (one other : List Int) (a : Int) : Option (List Int) := if a ∈ one ∧ -a ∈ other then joinO (resL one other a) else none
theorem resL_len {one other : List Int} (h1 : ClOk one) (h2 : ClOk other) (a : Int) : (resL one other a).length ≤ 100 := by
  unfold resL
  rw [List.length_append]
  have := List.length_filter_le (fun x => !decide (x = a)) one
  have := List.length_filter_le (fun x => !decide (x = -a)) other
  have := h1.len
  have := h2.len
  omega
theorem resL_0 {one other : List Int} (h1 : ClOk one) (h2 : ClOk other) (a : Int) : ∀ x ∈ resL one other a, x ≠ 0 := fun x hx => by
  unfold resL at hx
  rcases List.mem_append.mp hx with m | m
  · exact (h1.atoms x (List.mem_filter.mp m).1).2.2
  · exact (h2.atoms x (List.mem_filter.mp m).1).2.2
theorem f12 {n : Nat} (h : n ≤ 12) : n ≤ sizeLine := Nat.le_trans h (by decide)
theorem resolved_eq {one other : List Int} {a : Int} (h1 : ClOk one) (h2 : ClOk other) : g_resolved [encI one, encI other, .int a] = .ok false (optD (resO one other a)) [] := by
  have n1 := fNotIn_I a one
  have n2 := fNotIn_I (-a) other
  by_cases q1 : a ∈ one
  · by_cases q2 : -a ∈ other
    · have c1 : mLc (iSeqM (mV 0)) (tName 3) m_resolved_1 m_resolved_2 [3] [.cl (encI one), .cl (encI other), .cl (.int a), .un] = .ok (.fr (.list ((one.filter fun x => !decide (x = a)).map .int))) [.cl (encI one), .cl (encI other), .cl (.int a), .un] :=
        mLc_encF .int (fun x => !decide (x = a)) _ (by simp -implicitDefEqProofs) rfl (f12 h1.len) (fun x _ => by simp -implicitDefEqProofs [m_resolved_1]) fun x _ _ => by simp -implicitDefEqProofs [m_resolved_2]
      have c2 : mLc (iSeqM (mV 1)) (tName 3) m_resolved_3 m_resolved_4 [3] [.cl (encI one), .cl (encI other), .cl (.int a), .un] = .ok (.fr (.list ((other.filter fun x => !decide (x = -a)).map .int))) [.cl (encI one), .cl (encI other), .cl (.int a), .un] :=
        mLc_encF .int (fun x => !decide (x = -a)) _ (by simp -implicitDefEqProofs) rfl (f12 h2.len) (fun x _ => by simp -implicitDefEqProofs [m_resolved_3]) fun x _ _ => by simp -implicitDefEqProofs [m_resolved_4]
      have j := joined_any (resL_len h1 h2 a) (resL_0 h1 h2 a)
      have hz := resL_len h1 h2 a
      unfold resO
      rw [if_pos ⟨q1, q2⟩]
      generalize joinO (resL one other a) = o at j ⊢
      unfold resL at j hz
      rw [List.map_append] at j
      rw [List.length_append] at hz
      have hz : (one.filter fun x => !decide (x = a)).length + (other.filter fun x => !decide (x = -a)).length ≤ sizeLine := Nat.le_trans hz (by decide)
      generalize (one.filter fun x => !decide (x = a)) = u at *
      generalize (other.filter fun x => !decide (x = -a)) = v at *
      simp -implicitDefEqProofs [g_resolved, runD, m_resolved, n1, n2, q1, q2, c1, c2, j, hz]
    · simp -implicitDefEqProofs [g_resolved, runD, m_resolved, n1, n2, q1, q2, resO, optD]
  · simp -implicitDefEqProofs [g_resolved, runD, m_resolved, n1, q1, resO, optD]
theorem law_resolved_eq {one other : List Int} {a : Int} (h1 : ClOk one) (h2 : ClOk other) : g__law_resolved [encI one, encI other, .int a] = .ok false (optD (resO one other a)) [] := by
  have n1 := fNotIn_I a one
  have n2 := fNotIn_I (-a) other
  have z0 : (0 : Int) - a = -a := by omega
  by_cases q1 : a ∈ one
  · by_cases q2 : -a ∈ other
    · have c1 : mLc (iSeqM (mV 0)) (tName 3) m__law_resolved_1 m__law_resolved_2 [3] [.cl (encI one), .cl (encI other), .cl (.int a), .un] = .ok (.fr (.list ((one.filter fun x => !decide (x = a)).map .int))) [.cl (encI one), .cl (encI other), .cl (.int a), .un] :=
        mLc_encF .int (fun x => !decide (x = a)) _ (by simp -implicitDefEqProofs) rfl (f12 h1.len) (fun x _ => by simp -implicitDefEqProofs [m__law_resolved_1]) fun x _ _ => by simp -implicitDefEqProofs [m__law_resolved_2]
      have c2 : mLc (iSeqM (mV 1)) (tName 3) m__law_resolved_3 m__law_resolved_4 [3] [.cl (encI one), .cl (encI other), .cl (.int a), .un] = .ok (.fr (.list ((other.filter fun x => !decide (x = -a)).map .int))) [.cl (encI one), .cl (encI other), .cl (.int a), .un] :=
        mLc_encF .int (fun x => !decide (x = -a)) _ (by simp -implicitDefEqProofs) rfl (f12 h2.len) (fun x _ => by simp -implicitDefEqProofs [m__law_resolved_3, z0]) fun x _ _ => by simp -implicitDefEqProofs [m__law_resolved_4]
      have j := law_joined_any (resL_len h1 h2 a) (resL_0 h1 h2 a)
      have hz := resL_len h1 h2 a
      unfold resO
      rw [if_pos ⟨q1, q2⟩]
      generalize joinO (resL one other a) = o at j ⊢
      unfold resL at j hz
      rw [List.map_append] at j
      rw [List.length_append] at hz
      have hz : (one.filter fun x => !decide (x = a)).length + (other.filter fun x => !decide (x = -a)).length ≤ sizeLine := Nat.le_trans hz (by decide)
      generalize (one.filter fun x => !decide (x = a)) = u at *
      generalize (other.filter fun x => !decide (x = -a)) = v at *
      simp -implicitDefEqProofs [g__law_resolved, runD, m__law_resolved, n1, n2, q1, q2, c1, c2, j, hz, z0]
    · simp -implicitDefEqProofs [g__law_resolved, runD, m__law_resolved, n1, n2, q1, q2, resO, optD, z0]
  · simp -implicitDefEqProofs [g__law_resolved, runD, m__law_resolved, n1, q1, resO, optD]
theorem resolvent_eq {one other : List Int} {a : Int} (h1 : ClOk one) (h2 : ClOk other) (a1 : 1 ≤ a) (a2 : a ≤ 12) : g_resolvent [encI one, encI other, .int a] = .ok false (optD (resO one other a)) [] := by
  have e0 : g_check_clauses [.tuple [encI one, encI other]] = .ok false .none [] := check_ok (cs := [one, other]) (show 2 ≤ 80 by decide) (by simp [h1, h2])
  have e1 := is_within a 1 12
  have e2 := resolved_eq (a := a) h1 h2
  simp -implicitDefEqProofs [g_resolvent, runD, m_resolvent, e0, e1, a1, a2, e2, two_size, truD]
/-- a world that breaks the resolvent breaks one of both -/
theorem res_breaks {one other r : List Int} {a : Int} {w : List Int} (h1 : ClOk one) (e : resO one other a = some r) (b1 : holdsB one w = true) (b2 : holdsB other w = true) : holdsB r w = true := by
  unfold resO at e
  split at e
  · rename_i q
    unfold joinO at e
    split at e
    · cases e
    · rename_i nb
      cases e
      have p := (sAbs_up (nub_diff (Bool.not_eq_true _ ▸ nb))).2
      have mm : ∀ x, x ∈ sAbs (nubL (resL one other a)) ↔ x ∈ resL one other a := fun x => by rw [p.mem_iff, nubL_mem]
      obtain ⟨x, hx, tx⟩ := List.any_eq_true.mp b1
      obtain ⟨y, hy, ty⟩ := List.any_eq_true.mp b2
      refine List.any_eq_true.mpr ?_
      by_cases ex : x = a
      · by_cases ey : y = -a
        · subst ex ey
          have := litB_neg (h1.atoms x hx).2.2 ty
          rw [tx] at this; cases this
        · exact ⟨y, (mm y).mpr (List.mem_append.mpr (.inr (List.mem_filter.mpr ⟨hy, by simp [ey]⟩))), ty⟩
      · exact ⟨x, (mm x).mpr (List.mem_append.mpr (.inl (List.mem_filter.mpr ⟨hx, by simp [ex]⟩))), tx⟩
  · cases e
theorem res_mem {one other r : List Int} {a : Int} (e : resO one other a = some r) : ∀ x ∈ r, x ∈ one ∨ x ∈ other := by
  unfold resO at e
  split at e
  · unfold joinO at e
    split at e
    · cases e
    · rename_i nb
      cases e
      intro x hx
      have p := (sAbs_up (nub_diff (Bool.not_eq_true _ ▸ nb))).2
      have := nubL_mem.mp (p.mem_iff.mp hx)
      rcases List.mem_append.mp this with m | m
      · exact .inl (List.mem_filter.mp m).1
      · exact .inr (List.mem_filter.mp m).1
  · cases e
theorem res_len {one other r : List Int} {a : Int} (h1 : ClOk one) (h2 : ClOk other) (e : resO one other a = some r) : r.length ≤ 100 := by
  have hl := resL_len h1 h2 a
  unfold resO at e
  split at e
  · unfold joinO at e
    split at e
    · cases e
    · rename_i nb
      cases e
      have p := (sAbs_up (nub_diff (Bool.not_eq_true _ ▸ nb))).2
      rw [p.length_eq]
      exact Nat.le_trans (nubL_len _) hl
  · cases e
theorem worlds_bits : ∀ (m : Nat) (w : List Int), w ∈ worldsL m → ∀ x ∈ w, x = 0 ∨ x = 1
  | 0, w, h => by
    have : w = [] := by simpa [worldsL] using h
    subst this
    exact fun x hx => nomatch hx
  | m + 1, w, h => by
    simp only [worldsL, List.mem_flatMap, List.mem_append, List.mem_map, List.mem_cons, List.not_mem_nil, or_false] at h
    have ih := worlds_bits m
    intro x hx
    grind
theorem is_world_eq {w : List Int} (hz : w.length ≤ 100) (h : ∀ x ∈ w, x = 0 ∨ x = 1) : g_is_world [encI w, .int (w.length : Nat)] = .ok false (.bool true) [] := by
  have c1 : mLc (iSeqM (mV 0)) (tName 2) tYesM m_is_world_1 [2] [.cl (encI w), .cl (.int (w.length : Nat)), .un] = .ok (.fr (.list (w.map fun x => .bool true))) [.cl (encI w), .cl (.int (w.length : Nat)), .un] :=
    mLc_encM .int _ (by simp -implicitDefEqProofs) rfl (Nat.le_trans hz (by decide)) fun x hx => by
      have e := is_within x 0 1
      have b : (decide (0 ≤ x) && decide (x ≤ 1)) = true := by rcases h x hx with rfl | rfl <;> rfl
      rw [b] at e
      simp -implicitDefEqProofs [m_is_world_1, e]
  have a1 := fAll_map (fun _ : Int => true) w
  rw [show (w.all fun _ => true) = true from List.all_eq_true.mpr fun _ _ => rfl] at a1
  simp -implicitDefEqProofs [g_is_world, runD, m_is_world, c1, a1]
/-- the places of the clauses that a world breaks -/
def brokenL (cs : List (List Int)) (w : List Int) : List Int := (cs.zipIdx.filter fun q => !holdsB q.1 w).map fun q => (q.2 : Int)
theorem broken_eq {cs : List (List Int)} (h : CsOk cs) {m : Nat} (hm : manyI cs = m) {w : List Int} (hw : w ∈ worldsL m) : g_broken [encC cs, encI w] = .ok false (encI (brokenL cs w)) [] := by
  have e0 := check_ok h.many h.ok
  have e1 := many_in (cs := cs) (Nat.le_trans h.many (by decide)) fun c hc => Nat.le_trans (h.ok c hc).len (by decide)
  rw [many_eq fun c hc => (h.ok c hc).up, hm] at e1
  have hl := worlds_len m w hw
  have m12 := h.many_le
  have e2 := is_world_eq (w := w) (by omega) (worlds_bits m w hw)
  rw [hl] at e2
  have c1 : mLc (iFnK enm (kiCons (mV 0) kiNil)) (Vx.tTup (tsCons (tName 2) (tsCons (tName 3) tsNil))) m_broken_1 m_broken_2 [2, 3] [.cl (encC cs), .cl (encI w), .un, .un] = .ok (.fr (.list ((cs.zipIdx.filter fun q => !holdsB q.1 w).map fun q => .int (q.2 : Nat)))) [.cl (encC cs), .cl (encI w), .un, .un] := by
    refine mLc_enc (vs := [2, 3]) (fun q : List Int × Nat => PyData.tuple [.int (q.2 : Nat), encI q.1]) (fun q => !holdsB q.1 w) (fun q => .int (q.2 : Nat)) (l := cs.zipIdx) (ρ1 := [.cl (encC cs), .cl (encI w), .un, .un]) ?_ rfl (by rw [List.length_zipIdx]; exact Nat.le_trans h.many (by decide)) fun q hq => ⟨_, (set2 (v := 2) (u := 3) (by decide) rfl rfl).1, (set2 (by decide) rfl rfl).2, ?_, fun _ => ?_⟩
    · have := enum_enc encI cs 0
      simp -implicitDefEqProofs [this]
    · obtain ⟨y, j⟩ := q
      have hy : y ∈ cs := List.mem_of_getElem? (List.mem_zipIdx_iff_getElem?.mp hq)
      have e := holds_in (h.fits (by omega) hw hy) (h.ok y hy).size
      simp -implicitDefEqProofs [m_broken_1, e, truD]
    · simp -implicitDefEqProofs [m_broken_2]
  have mm : ((cs.zipIdx.filter fun q => !holdsB q.1 w).map fun q => PyData.int (q.2 : Nat)) = (brokenL cs w).map .int := by
    unfold brokenL; rw [List.map_map]; rfl
  rw [mm] at c1
  generalize brokenL cs w = t at *
  simp -implicitDefEqProofs [g_broken, runD, m_broken, e0, e1, e2, c1, truD]
end Wk
set_option maxHeartbeats 2000000
namespace Wk
open PySem PySem.Spec L2 Vx Lb
structure Sm (n k : Nat) (d : D) : Prop where
  nd : noDict d = true
  sh : d.showable = true
  dp : d.depth ≤ n
  ln : d.shown.length ≤ k
theorem Sm.mono {n k : Nat} {d : D} (h : Sm n k d) {n' k' : Nat} (hn : n ≤ n') (hk : k ≤ k') : Sm n' k' d := ⟨h.nd, h.sh, Nat.le_trans h.dp hn, Nat.le_trans h.ln hk⟩
theorem noDicts_iff : ∀ {ds : List D}, noDicts ds = true ↔ ∀ d ∈ ds, noDict d = true
  | [] => by simp [noDicts]
  | d :: ds => by simp [noDicts, noDicts_iff (ds := ds)]
theorem showAll_iff : ∀ {ds : List D}, PyData.showableAll ds = true ↔ ∀ d ∈ ds, d.showable = true
  | [] => by simp [PyData.showableAll]
  | d :: ds => by simp [PyData.showableAll, showAll_iff (ds := ds)]
theorem depthAll_le {n : Nat} : ∀ {ds : List D}, (∀ d ∈ ds, d.depth ≤ n) → PyData.depthAll ds ≤ n
  | [], _ => by simp [PyData.depthAll]
  | d :: ds, h => by
    have := depthAll_le (ds := ds) fun x hx => h x (List.mem_cons_of_mem _ hx)
    have := h d List.mem_cons_self
    simp only [PyData.depthAll]; omega
theorem piled_le {k : Nat} : ∀ {ds : List D}, (∀ d ∈ ds, d.shown.length ≤ k) → piled (PyData.shownAll ds) ≤ ds.length * (k + 2)
  | [], _ => by simp [PyData.shownAll, piled]
  | d :: ds, h => by
    have := piled_le (ds := ds) fun x hx => h x (List.mem_cons_of_mem _ hx)
    have := h d List.mem_cons_self
    simp only [PyData.shownAll, List.length_cons]
    rw [piled_cons, Nat.succ_mul]; omega
theorem piled_mem : ∀ {ds : List D} {d : D}, d ∈ ds → d.shown.length + 2 * ds.length ≤ piled (PyData.shownAll ds)
  | x :: ds, d, h => by
    simp only [PyData.shownAll, List.length_cons]
    rw [piled_cons]
    have l : ∀ es : List D, 2 * es.length ≤ piled (PyData.shownAll es) := by
      intro es
      induction es with
      | nil => simp [PyData.shownAll, piled]
      | cons e es ih => simp only [PyData.shownAll, List.length_cons]; rw [piled_cons]; omega
    rcases List.mem_cons.mp h with e | h
    · subst e; have := l ds; omega
    · have := piled_mem h; omega
theorem tupleText_le (ts : List Str) : (tupleText ts).length ≤ piled ts + 4 := by
  unfold tupleText
  rw [strLen_append, strLen_append]
  have e1 : ((("(" : String) : Str)).length = 1 := rfl
  have e3 : (((if ts.length == 1 then ",)" else ")" : String) : Str)).length ≤ 2 := by split <;> decide
  rw [e1]
  by_cases h : ts = []
  · subst h
    have : (Str.join ", " []).length = 0 := rfl
    omega
  · have := join_length_add ts h
    omega
theorem listText_le (ts : List Str) : (listText ts).length ≤ piled ts + 4 := by
  unfold listText
  rw [strLen_append]
  have e1 : ((("[" : String) : Str)).length = 1 := rfl
  have e2 : ((("]" : String) : Str)).length = 1 := rfl
  cases ts with
  | nil =>
    show ((("[" : String) : Str)).length + _ ≤ _
    omega
  | cons t r =>
    have e : textFrom 0 "[" (t :: r) = textFrom 1 ("[" ++ (if 0 > 0 then ", " else "" : String) ++ t) r := rfl
    rw [e, textFrom_length_pos _ _ _ (by decide), strLen_append, strLen_append, e1, e2, piled_cons]
    have e3 : (((if 0 > 0 then ", " else "" : String)) : Str).length = 0 := rfl
    rw [e3]; omega
theorem sm_tup {n k : Nat} {ds : List D} (h : ∀ d ∈ ds, Sm n k d) {k' : Nat} (hk : ds.length * (k + 2) + 4 ≤ k') : Sm (n + 1) k' (.tuple ds) := by
  refine ⟨noDicts_iff.mpr fun d hd => (h d hd).nd, showAll_iff.mpr fun d hd => (h d hd).sh, ?_, ?_⟩
  · have := depthAll_le fun d hd => (h d hd).dp
    simp only [PyData.depth]; omega
  · have := piled_le fun d hd => (h d hd).ln
    have := tupleText_le (PyData.shownAll ds)
    simp only [PyData.shown]; omega
theorem sm_lst {n k : Nat} {ds : List D} (h : ∀ d ∈ ds, Sm n k d) {k' : Nat} (hk : ds.length * (k + 2) + 4 ≤ k') : Sm (n + 1) k' (.list ds) := by
  refine ⟨noDicts_iff.mpr fun d hd => (h d hd).nd, showAll_iff.mpr fun d hd => (h d hd).sh, ?_, ?_⟩
  · have := depthAll_le fun d hd => (h d hd).dp
    simp only [PyData.depth]; omega
  · have := piled_le fun d hd => (h d hd).ln
    have := listText_le (PyData.shownAll ds)
    simp only [PyData.shown]; omega
theorem len99 : ∀ k : Fin 199, ((toString ((k.val : Int) - 99) : String) : Str).length ≤ 3 := by decide +kernel
theorem sm_int {i : Int} (h1 : -99 ≤ i) (h2 : i ≤ 99) : Sm 0 10 (.int i) := by
  refine ⟨rfl, ?_, Nat.le_refl _, ?_⟩
  · show decide (i.natAbs.log2 < 1920) = true
    refine decide_eq_true (Nat.lt_of_le_of_lt (Nat.log2_le_self _) (by omega))
  · have := len99 ⟨(i + 99).toNat, by omega⟩
    have e : (((i + 99).toNat : Nat) : Int) - 99 = i := by omega
    dsimp only at this
    rw [e] at this
    simp only [PyData.shown]
    omega
theorem sm_none : Sm 0 10 .none := ⟨rfl, rfl, Nat.le_refl _, by decide⟩
theorem sm_bool (b : Bool) : Sm 0 10 (.bool b) := ⟨rfl, rfl, Nat.le_refl _, by cases b <;> decide⟩
theorem sm_str {s : Str} (h : (reprText s).length ≤ 10) : Sm 0 10 (.str s) := ⟨rfl, rfl, Nat.le_refl _, h⟩
theorem Sm.okT {n k : Nat} {d : D} (h : Sm n k d) : Vx.okT d = true := by
  cases d with
  | dict ks => have := h.nd; cases this
  | _ => rfl
theorem Sm.items {n k : Nat} {ds : List D} (h : Sm n k (.tuple ds)) : ds.length ≤ k ∧ ∀ d ∈ ds, Sm n k d := by
  have l : ∀ d ∈ ds, d.shown.length + 2 * ds.length ≤ k := fun d hd => by
    have := h.ln
    simp only [PyData.shown] at this
    have := piled_le_tupleText (PyData.shownAll ds)
    have := piled_mem hd
    omega
  refine ⟨?_, fun d hd => ⟨noDicts_iff.mp h.nd d hd, showAll_iff.mp h.sh d hd, ?_, by have := l d hd; omega⟩⟩
  · cases ds with
    | nil => exact Nat.zero_le _
    | cons d ds => have := l d List.mem_cons_self; omega
  · have := h.dp
    simp only [PyData.depth] at this
    have := PyData.depth_le_depthAll ds d hd
    omega
theorem Sm.jok {n k : Nat} {d : D} (h : Sm n k d) (hk : k ≤ 1000) : JOk d := ⟨h.okT, fun ds e => by
  subst e
  exact ⟨Nat.le_trans h.items.1 hk, fun x hx => (h.items.2 x hx).okT⟩⟩
theorem Sm.jsok {n k : Nat} {d : D} (h : Sm n k d) (hk : k ≤ 1000) : JsOk d := ⟨h.okT, fun ds e => by
  subst e
  exact ⟨Nat.le_trans h.items.1 hk, fun x hx => (h.items.2 x hx).jok hk⟩⟩
theorem Sm.repr {n k : Nat} {d : D} (h : Sm n k d) (hk : k ≤ 1000) (hn : n ≤ 60) : reprB d = true := by
  unfold reprB
  rw [h.nd, h.sh, decide_eq_true (Nat.le_trans h.ln (Nat.le_trans hk (by decide))), decide_eq_true (Nat.le_trans h.dp hn)]
  rfl
/-- what may be shown and judged: a small thing, or {} -/
def Th (d : D) : Prop := Sm 60 1000 d ∨ d = .dict []
theorem Th.jok {d : D} (h : Th d) : JOk d := by
  rcases h with h | h
  · exact h.jok (Nat.le_refl _)
  · subst h; exact ⟨rfl, fun _ e => nomatch e⟩
theorem Th.jsok {d : D} (h : Th d) : JsOk d := by
  rcases h with h | h
  · exact h.jsok (Nat.le_refl _)
  · subst h; exact ⟨rfl, fun _ e => nomatch e⟩
theorem Th.repr {d : D} (h : Th d) : reprB d = true := by
  rcases h with h | h
  · exact h.repr (Nat.le_refl _) (Nat.le_refl _)
  · subst h; decide
theorem any2 {h : Hnd} {n : Nat} (w : h.Ok (n + 1)) (x : D) : ∃ d h', g__law_any [h.d, .list [.tuple [x], .list [x]]] = .ok false d [Hnd.d h'] ∧ (d = .tuple [x] ∨ d = .list [x]) ∧ h'.Ok n := by
  obtain ⟨d, h', e, m, w'⟩ := any (h := h) (n := n) w (ds := [.tuple [x], .list [x]]) (by simp) (show 2 < 1000000 by decide)
  exact ⟨d, h', e, by simpa using m, w'⟩
theorem law_deep {h : Hnd} {n : Nat} (w : h.Ok (n + 40)) : ∃ d h', g__law_deep [h.d, .int 1] = .ok false d [Hnd.d h'] ∧ Sm 30 200 d ∧ h'.Ok n := by
  obtain ⟨r, h1, e1, r1, r2, w1⟩ := draw (h := h) (n := n + 39) w (m := 25) (by decide) (by decide)
  have rg := rng1_of (j := 5 + r) (by omega) (by omega)
  obtain ⟨m, hm⟩ : ∃ m : Nat, 5 + r = (m : Int) := ⟨(5 + r).toNat, by omega⟩
  rw [hm] at rg
  let P : Nat → Ev → Prop := fun i ρ => ∃ (k : Hnd) (d : D), ρ = [.le k.d, .cl d, .un] ∧ Sm i (10 + 6 * i) d ∧ k.Ok (n + (39 - i))
  obtain ⟨ρ', e, k, d, eρ, sm, wk⟩ := forI_inv (t := tName 2) (b := m__law_deep_1) (P := P) (rngD 0 (m : Int).toNat) 0 [.le h1.d, .cl (.int 1), .un] ⟨h1, _, rfl, sm_int (by decide) (by decide), w1⟩ fun i x ρ hx hp => by
    obtain ⟨k, d, eρ, sm, wk⟩ := hp
    rw [Nat.zero_add] at sm wk ⊢
    subst eρ
    have hi : i < 30 := by
      have := (List.getElem?_eq_some_iff.mp hx).1
      rw [rngD_len] at this; omega
    obtain ⟨d', k', ea, hd, wk'⟩ := any2 (h := k) (n := n + (39 - (i + 1))) (wk.mono (by omega)) d
    refine ⟨[.le k.d, .cl d, .cl x], [.le k'.d, .cl d', .un], by simp, .inl ?_, k', d', rfl, ?_, wk'⟩
    · simp -implicitDefEqProofs [m__law_deep_1, one_size, two_size, ea, isLe]
    · rcases hd with rfl | rfl
      · exact sm_tup (n := i) (k := 10 + 6 * i) (by simpa using sm) (by simp; omega)
      · exact sm_lst (n := i) (k := 10 + 6 * i) (by simpa using sm) (by simp; omega)
  rw [Nat.zero_add, rngD_len] at sm wk
  subst eρ
  have hm2 : (m : Int).toNat = m := by omega
  rw [hm2] at sm e
  refine ⟨d, k, ?_, sm.mono (by omega) (by omega), wk.mono (by omega)⟩
  have e5 : (5 : Int) + r = m := hm
  simp -implicitDefEqProofs [g__law_deep, runD, m__law_deep, e1, e5, rg, e, isLe]
end Wk
set_option maxHeartbeats 2000000
namespace Wk
open PySem PySem.Spec L2 Vx Lb
theorem cut_sub (ds : List D) (lo hi : Option Int) : (cutD ds lo hi).Sublist ds := by
  unfold cutD
  exact (List.take_sublist _ _).trans (List.drop_sublist _ _)
theorem near_2 {g : List D → FR} {d d1 : D} {cs : List (List Int)} {x : List Int} (hz : cs.length ≤ 80) (e : g [d, .list ((cs ++ [[1, -2, 3]]).map encI)] = .ok false (encI x) [d1]) :
    sSet 2 (mCall g [.mu, .pl] (aCons (mV 0) (aCons (m2 fAdd (mB (f1 fList) (aCons (mV 1) aNil)) (mLst (kCons (mTup (kCons (mC (.int 1)) (kCons (m1 fNeg (mC (.int 2))) (kCons (mC (.int 3)) kNil)))) kNil))) aNil))) [.le d, .cl (encC cs), .un, .un, .un, .un] = .ok .nx [.le d1, .cl (encC cs), .cl (encI x), .un, .un, .un] := by
  have h3 : 3 ≤ sizeLine := by decide
  have hz2 : cs.length + 1 ≤ sizeLine := Nat.le_trans (show _ ≤ 81 by omega) (by decide)
  have n2 : fNeg (.int 2) = some (.val (.int (-2))) := rfl
  rw [List.map_append] at e
  have e : g [d, .list (cs.map encI ++ [.tuple [.int 1, .int (-2), .int 3]])] = .ok false (encI x) [d1] := e
  simp -implicitDefEqProofs [h3, one_size, hz2, n2, e]
theorem near_3 {g : List D → FR} {d d1 : D} {s1 s3 s4 s5 : Sl} {x : List Int} {r : Int} (h3 : free (some s3) = true) (e : g [d, .int ((x.length : Nat) + 1)] = .ok false (.int r) [d1]) :
    sSet 3 (mCall g [.mu, .pl] (aCons (mV 0) (aCons (m2 fAdd (mB (f1 fLen) (aCons (mV 2) aNil)) (mC (.int 1))) aNil))) [.le d, s1, .cl (encI x), s3, s4, s5] = .ok .nx [.le d1, s1, .cl (encI x), .cl (.int r), s4, s5] := by
  simp -implicitDefEqProofs [e, h3]
def firstD (x : List Int) : D := match x with
  | [] => .int 5
  | i :: _ => .int i
def oddL (x : List Int) : List D := [.int 0, .int 12, .int 13, .int (-12), .int (-13), .bool true, .none, .str "1", .tuple [.int 1], firstD x]
theorem near_4 {g : List D → FR} {d d1 o : D} {s1 s3 s5 : Sl} {x : List Int} (e : g [d, .list (oddL x)] = .ok false o [d1]) :
    sSet 4 (mCall g [.mu, .pl] (aCons (mV 0) (aCons (mLst (kCons (mC (.int 0)) (kCons (mC (.int 12)) (kCons (mC (.int 13)) (kCons (m1 fNeg (mC (.int 12))) (kCons (m1 fNeg (mC (.int 13))) (kCons (mC (.bool true)) (kCons (mC .none) (kCons (mC (.str "1")) (kCons (mTup (kCons (mC (.int 1)) kNil)) (kCons (mIf (mT (m2 fGt (mB (f1 fLen) (aCons (mV 2) aNil)) (mC (.int 0)))) (m2 fIx (mV 2) (mC (.int 0))) (mC (.int 5))) kNil))))))))))) aNil))) [.le d, s1, .cl (encI x), s3, .un, s5] = .ok .nx [.le d1, s1, .cl (encI x), s3, .cl o, s5] := by
  have h10 : 10 ≤ sizeLine := by decide
  have n12 : fNeg (.int 12) = some (.val (.int (-12))) := rfl
  have n13 : fNeg (.int 13) = some (.val (.int (-13))) := rfl
  cases x with
  | nil =>
    have e : g [d, .list [.int 0, .int 12, .int 13, .int (-12), .int (-13), .bool true, .none, .str "1", .tuple [.int 1], .int 5]] = .ok false o [d1] := e
    simp -implicitDefEqProofs [e, h10, one_size, n12, n13]
  | cons i x =>
    have e : g [d, .list [.int 0, .int 12, .int 13, .int (-12), .int (-13), .bool true, .none, .str "1", .tuple [.int 1], .int i]] = .ok false o [d1] := e
    have gp : (0 : Int) < (x.length : Int) + 1 := by omega
    simp -implicitDefEqProofs [e, h10, one_size, n12, n13, gp]
def nearL (x : List Int) (r : Int) (o : D) : List D := [encI x, .tuple (cutD (x.map .int) none (some r) ++ [o] ++ cutD (x.map .int) (some r) none), .tuple (cutD (x.map .int) none (some r) ++ [o] ++ cutD (x.map .int) (some (r + 1)) none), .tuple (x.map .int).reverse, .list (x.map .int), .tuple (x.map .int ++ cutD (x.map .int) (some (-1)) none)]
theorem near_5 {d o : D} {s1 : Sl} {x : List Int} {r : Int} (hz : x.length ≤ 12) :
    sSet 5 (mLst (kCons (mV 2) (kCons (m2 fAdd (m2 fAdd (mSl fSl (mV 2) bNo (bAt (mV 3))) (mTup (kCons (mV 4) kNil))) (mSl fSl (mV 2) (bAt (mV 3)) bNo)) (kCons (m2 fAdd (m2 fAdd (mSl fSl (mV 2) bNo (bAt (mV 3))) (mTup (kCons (mV 4) kNil))) (mSl fSl (mV 2) (bAt (m2 fAdd (mV 3) (mC (.int 1)))) bNo)) (kCons (m1 fRev (mV 2)) (kCons (mB (f1 fList) (aCons (mV 2) aNil)) (kCons (m2 fAdd (mV 2) (mSl fSl (mV 2) (bAt (m1 fNeg (mC (.int 1)))) bNo)) kNil))))))) [.le d, s1, .cl (encI x), .cl (.int r), .cl o, .un] = .ok .nx [.le d, s1, .cl (encI x), .cl (.int r), .cl o, .ow (.list (nearL x r o))] := by
  have h6 : 6 ≤ sizeLine := by decide
  have l1 := (cut_sub (x.map .int) none (some r)).length_le
  have l2 := (cut_sub (x.map .int) (some r) none).length_le
  have l3 := (cut_sub (x.map .int) (some (r + 1)) none).length_le
  have l4 := (cut_sub (x.map .int) (some (-1)) none).length_le
  unfold nearL
  rw [List.length_map] at l1 l2 l3 l4
  generalize hA : cutD (x.map PyData.int) none (some r) = A at l1 ⊢
  generalize hB : cutD (x.map PyData.int) (some r) none = B at l2 ⊢
  generalize hC : cutD (x.map PyData.int) (some (r + 1)) none = C at l3 ⊢
  generalize hE : cutD (x.map PyData.int) (some (-1)) none = E at l4 ⊢
  have k1 : A.length + 1 ≤ sizeLine := Nat.le_trans (show _ ≤ 100 by omega) (by decide)
  have k2 : A.length + 1 + B.length ≤ sizeLine := Nat.le_trans (show _ ≤ 100 by omega) (by decide)
  have k3 : A.length + 1 + C.length ≤ sizeLine := Nat.le_trans (show _ ≤ 100 by omega) (by decide)
  have k4 : x.length + E.length ≤ sizeLine := Nat.le_trans (show _ ≤ 100 by omega) (by decide)
  have n1 : fNeg (.int 1) = some (.val (.int (-1))) := rfl
  simp -implicitDefEqProofs [h6, k1, k2, k3, k4, one_size, n1, hA, hB, hC, hE]
end Wk
set_option maxHeartbeats 2000000
namespace Wk
open PySem PySem.Spec L2 Vx Lb
theorem at_last (x : List Int) {v : Int} (h : x.getLast? = some v) : atI (x.map PyData.int) (-1) = some (.int v) := by
  have hl : 0 < x.length := by cases x with
    | nil => cases h
    | cons _ _ => exact Nat.succ_pos _
  rw [List.getLast?_eq_getElem?] at h
  unfold atI ixN
  rw [List.length_map, if_neg (by decide), if_pos (by omega), Option.bind_some, show ((-1 : Int) + (x.length : Int)).toNat = x.length - 1 by omega, List.getElem?_map, h]
  rfl
def lastY (x : List Int) : D := match x.getLast? with
  | none => .tuple []
  | some v => .tuple (x.map .int ++ [.int (0 - v)])
theorem near_y {ρ : Ev} {d : D} {s1 s3 s4 s5 : Sl} {x : List Int} (hz : x.length ≤ 12) : mIf (mT (m2 fGt (mB (f1 fLen) (aCons (mV 2) aNil)) (mC (.int 0)))) (m2 fAdd (mV 2) (mTup (kCons (m2 fSub (mC (.int 0)) (m2 fIx (mV 2) (m1 fNeg (mC (.int 1))))) kNil))) (mTup kNil) [.le d, s1, .cl (encI x), s3, s4, s5] = .ok (.val (lastY x)) [.le d, s1, .cl (encI x), s3, s4, s5] := by
  have n1 : fNeg (.int 1) = some (.val (.int (-1))) := rfl
  unfold lastY
  cases h : x.getLast? with
  | none =>
    have : x = [] := by simpa using h
    subst this
    simp -implicitDefEqProofs
  | some v =>
    have al := at_last x h
    have hl : 0 < x.length := by cases x with
      | nil => cases h
      | cons _ _ => exact Nat.succ_pos _
    have gp : (0 : Int) < (x.length : Int) := by omega
    have hne : x ≠ [] := fun q => by rw [q] at h; cases h
    have k : x.length + 1 ≤ sizeLine := Nat.le_trans (show _ ≤ 13 by omega) (by decide)
    simp -implicitDefEqProofs [n1, al, gp, hne, k, one_size]
theorem near_6 {ga gd : List D → FR} {d d1 d2 dp t : D} {s1 s3 s4 : Sl} {x : List Int} {N : List D} (hz : x.length ≤ 12) (hN : N.length = 6) (e1 : gd [d, .int 1] = .ok false dp [d1])
    (e2 : ga [d1, .list (N ++ [.none, .dict [], .int 0, .str "clause", lastY x, .tuple [.int 1, .int (-12)], dp])] = .ok false t [d2]) :
    sRet (mCall ga [.mu, .pl] (aCons (mV 0) (aCons (m2 fAdd (mV 5) (mLst (kCons (mC .none) (kCons mDict0 (kCons (mC (.int 0)) (kCons (mC (.str "clause")) (kCons (mIf (mT (m2 fGt (mB (f1 fLen) (aCons (mV 2) aNil)) (mC (.int 0)))) (m2 fAdd (mV 2) (mTup (kCons (m2 fSub (mC (.int 0)) (m2 fIx (mV 2) (m1 fNeg (mC (.int 1))))) kNil))) (mTup kNil)) (kCons (mTup (kCons (mC (.int 1)) (kCons (m1 fNeg (mC (.int 12))) kNil))) (kCons (mCall gd [.mu, .pl] (aCons (mV 0) (aCons (mC (.int 1)) aNil))) kNil))))))))) aNil))) [.le d, s1, .cl (encI x), s3, s4, .ow (.list N)] = .ok (.rt (.val t)) [.le d2, s1, .cl (encI x), s3, s4, .ow (.list N)] := by
  have h7 : 7 ≤ sizeLine := by decide
  have h13 : 13 ≤ sizeLine := by decide
  have n12 : fNeg (.int 12) = some (.val (.int (-12))) := rfl
  have ey := near_y (ρ := []) (d := d) (s1 := s1) (s3 := s3) (s4 := s4) (s5 := .ow (.list N)) hz
  generalize hM : (mIf (mT (m2 fGt (mB (f1 fLen) (aCons (mV 2) aNil)) (mC (.int 0)))) (m2 fAdd (mV 2) (mTup (kCons (m2 fSub (mC (.int 0)) (m2 fIx (mV 2) (m1 fNeg (mC (.int 1))))) kNil))) (mTup kNil)) = M at ey ⊢
  clear hM
  simp -implicitDefEqProofs [h7, h13, n12, ey, e1, e2, hN, two_size]
theorem sm_c {x : Int} (h : -12 ≤ x ∧ x ≤ 12) : Sm 0 10 (.int x) := sm_int (by omega) (by omega)
theorem th_tup {ds : List D} (hz : ds.length ≤ 26) (h : ∀ d ∈ ds, Sm 1 20 d) : Th (.tuple ds) := .inl ((sm_tup h (Nat.le_refl _)).mono (by decide) (by
  have := Nat.mul_le_mul_right 22 hz
  omega))
theorem th_lst {ds : List D} (hz : ds.length ≤ 26) (h : ∀ d ∈ ds, Sm 1 20 d) : Th (.list ds) := .inl ((sm_lst h (Nat.le_refl _)).mono (by decide) (by
  have := Nat.mul_le_mul_right 22 hz
  omega))
theorem odd_sm {x : List Int} (hc : ClOk x) : ∀ d ∈ oddL x, Sm 1 20 d := fun d hd => by
  have i : ∀ {j : Int}, -99 ≤ j → j ≤ 99 → Sm 1 20 (.int j) := fun h1 h2 => (sm_int h1 h2).mono (by decide) (by decide)
  unfold oddL at hd
  simp only [List.mem_cons, List.not_mem_nil, or_false] at hd
  rcases hd with rfl | rfl | rfl | rfl | rfl | rfl | rfl | rfl | rfl | rfl
  · exact i (by decide) (by decide)
  · exact i (by decide) (by decide)
  · exact i (by decide) (by decide)
  · exact i (by decide) (by decide)
  · exact i (by decide) (by decide)
  · exact (sm_bool _).mono (by decide) (by decide)
  · exact sm_none.mono (by decide) (by decide)
  · exact (sm_str (by decide +kernel)).mono (by decide) (by decide)
  · exact sm_tup (n := 0) (k := 10) (fun d hd => by rw [List.mem_singleton] at hd; subst hd; exact sm_int (by decide) (by decide)) (by decide)
  · unfold firstD
    cases x with
    | nil => exact i (by decide) (by decide)
    | cons a x => have := hc.atoms a List.mem_cons_self; exact i (by omega) (by omega)
theorem ints_sm {x : List Int} (hc : ClOk x) : ∀ d ∈ x.map PyData.int, Sm 1 20 d := fun d hd => by
  obtain ⟨i, hi, rfl⟩ := List.mem_map.mp hd
  have := hc.atoms i hi
  exact (sm_int (by omega) (by omega)).mono (by decide) (by decide)
theorem near_th {x : List Int} {r : Int} {o dp : D} (hc : ClOk x) (ho : Sm 1 20 o) (hd : Sm 30 200 dp) : ∀ t ∈ nearL x r o ++ [.none, .dict [], .int 0, .str "clause", lastY x, .tuple [.int 1, .int (-12)], dp], Th t := fun t ht => by
  have hl := hc.len
  have ix := ints_sm hc
  have i : ∀ {j : Int}, -99 ≤ j → j ≤ 99 → Sm 1 20 (.int j) := fun h1 h2 => (sm_int h1 h2).mono (by decide) (by decide)
  have cl : ∀ lo hi, (cutD (x.map PyData.int) lo hi).length ≤ 12 := fun lo hi => by
    have := (cut_sub (x.map PyData.int) lo hi).length_le
    rw [List.length_map] at this; omega
  have cm : ∀ lo hi, ∀ d ∈ cutD (x.map PyData.int) lo hi, Sm 1 20 d := fun lo hi d hd => ix d ((cut_sub _ lo hi).subset hd)
  rcases List.mem_append.mp ht with m | m
  · unfold nearL at m
    simp only [List.mem_cons, List.not_mem_nil, or_false] at m
    rcases m with rfl | rfl | rfl | rfl | rfl | rfl
    · exact th_tup (by rw [List.length_map]; omega) ix
    · refine th_tup ?_ fun d hd => ?_
      · have := cl none (some r)
        have := cl (some r) none
        simp only [List.length_append, List.length_cons, List.length_nil]; omega
      · simp only [List.mem_append, List.mem_singleton] at hd
        rcases hd with (hd | rfl) | hd
        · exact cm _ _ d hd
        · exact ho
        · exact cm _ _ d hd
    · refine th_tup ?_ fun d hd => ?_
      · have := cl none (some r)
        have := cl (some (r + 1)) none
        simp only [List.length_append, List.length_cons, List.length_nil]; omega
      · simp only [List.mem_append, List.mem_singleton] at hd
        rcases hd with (hd | rfl) | hd
        · exact cm _ _ d hd
        · exact ho
        · exact cm _ _ d hd
    · exact th_tup (by rw [List.length_reverse, List.length_map]; omega) fun d hd => ix d (List.mem_reverse.mp hd)
    · exact th_lst (by rw [List.length_map]; omega) ix
    · refine th_tup ?_ fun d hd => ?_
      · have := cl (some (-1)) none
        rw [List.length_append, List.length_map]; omega
      · rcases List.mem_append.mp hd with hd | hd
        · exact ix d hd
        · exact cm _ _ d hd
  · simp only [List.mem_cons, List.not_mem_nil, or_false] at m
    rcases m with rfl | rfl | rfl | rfl | rfl | rfl | rfl
    · exact .inl (sm_none.mono (by decide) (by decide))
    · exact .inr rfl
    · exact .inl ((sm_int (by decide) (by decide)).mono (by decide) (by decide))
    · exact .inl ((sm_str (by decide +kernel)).mono (by decide) (by decide))
    · unfold lastY
      cases h : x.getLast? with
      | none => exact th_tup (by decide) fun d hd => nomatch hd
      | some v =>
        have hv : v ∈ x := List.mem_of_getLast? h
        have := hc.atoms v hv
        refine th_tup (by rw [List.length_append, List.length_map]; show _ + 1 ≤ 26; omega) fun d hd => ?_
        rcases List.mem_append.mp hd with hd | hd
        · exact ix d hd
        · rw [List.mem_singleton] at hd
          subst hd
          exact i (by omega) (by omega)
    · exact th_tup (by decide) fun d hd => by
        simp only [List.mem_cons, List.not_mem_nil, or_false] at hd
        rcases hd with rfl | rfl
        · exact i (by decide) (by decide)
        · exact i (by decide) (by decide)
    · exact .inl (hd.mono (by decide) (by decide))
theorem cl123 : ClOk [1, -2, 3] := ⟨by decide, by decide⟩
theorem law_near {h : Hnd} {n : Nat} {cs : List (List Int)} (w : h.Ok (n + 50)) (hc : CsOk cs) : ∃ t h', g__law_near [h.d, encC cs] = .ok false t [Hnd.d h'] ∧ Th t ∧ h'.Ok n := by
  have hz := hc.many
  obtain ⟨dx, h1, e1, m1, w1⟩ := any (h := h) (n := n + 49) w (ds := (cs ++ [[1, -2, 3]]).map encI) (by simp) (by rw [List.length_map, List.length_append]; show _ + 1 < _; omega)
  obtain ⟨x, hx, rfl⟩ := List.mem_map.mp m1
  have ox : ClOk x := by
    rcases List.mem_append.mp hx with m | m
    · exact hc.ok x m
    · rw [List.mem_singleton] at m; subst m; exact cl123
  have lx := ox.len
  obtain ⟨r, h2, e2, r1, r2, w2⟩ := draw (h := h1) (n := n + 48) w1 (m := (x.length : Nat) + 1) (by omega) (by omega)
  obtain ⟨o, h3, e3, m3, w3⟩ := any (h := h2) (n := n + 47) w2 (ds := oddL x) (by simp [oddL]) (show 10 < 1000000 by decide)
  have so := odd_sm ox o m3
  obtain ⟨dp, h4, e4, sd, w4⟩ := law_deep (h := h3) (n := n + 7) w3
  have s6 : (nearL x r o).length = 6 := rfl
  obtain ⟨t, h5, e5, m5, w5⟩ := any (h := h4) (n := n + 6) w4 (ds := nearL x r o ++ [.none, .dict [], .int 0, .str "clause", lastY x, .tuple [.int 1, .int (-12)], dp]) (by simp) (by rw [List.length_append, s6]; exact (show 6 + 7 < 1000000 by decide))
  refine ⟨t, h5, ?_, near_th ox so sd t m5, w5.mono (by omega)⟩
  have b2 := near_2 hz e1
  have b3 := near_3 (s1 := .cl (encC cs)) (s3 := .un) (s4 := .un) (s5 := .un) rfl e2
  have b4 := near_4 (s1 := .cl (encC cs)) (s3 := .cl (.int r)) (s5 := .un) e3
  have b5 := near_5 (d := h3.d) (s1 := .cl (encC cs)) (o := o) (r := r) lx
  have b6 := near_6 (s1 := .cl (encC cs)) (s3 := .cl (.int r)) (s4 := .cl o) lx s6 e4 e5
  have fin : m__law_near [.le h.d, .cl (encC cs), .un, .un, .un, .un] = .ok (.rt (.val t)) [.le h5.d, .cl (encC cs), .cl (encI x), .cl (.int r), .cl o, .ow (.list (nearL x r o))] := by
    unfold m__law_near
    rw [seq_nx b2, seq_nx b3, seq_nx b4, seq_nx b5, b6]
  unfold g__law_near
  generalize m__law_near = M at fin
  generalize h.d = hd at *
  simp -implicitDefEqProofs [runD, fin]
end Wk
set_option maxHeartbeats 2000000
namespace Wk
open PySem PySem.Spec L2 Vx Lb
def one1 : D := .tuple [.int 1]
theorem rep80 : fRepT (.tuple [.tuple [.int 1]]) (.int 80) = some (.val (.tuple (List.replicate 80 one1))) := by
  show (if (decide (0 < 1) && decide (1 ≤ 1000) && decide ((2 : Int) ≤ 80) && decide ((80 : Int) ≤ 1000)) = true then some (Op.val (.tuple (List.replicate (80 : Int).toNat [one1]).flatten)) else none) = _
  rw [if_pos (by decide), List.flatten_replicate_singleton]; rfl
theorem rep81 : fRepT (.tuple [.tuple [.int 1]]) (.int 81) = some (.val (.tuple (List.replicate 81 one1))) := by
  show (if (decide (0 < 1) && decide (1 ≤ 1000) && decide ((2 : Int) ≤ 81) && decide ((81 : Int) ≤ 1000)) = true then some (Op.val (.tuple (List.replicate (81 : Int).toNat [one1]).flatten)) else none) = _
  rw [if_pos (by decide), List.flatten_replicate_singleton]; rfl
def lotL (cs : List (List Int)) (t : D) : List D := [.tuple (cs.map encI ++ [t]), .tuple [t], .list [t], .tuple (cs.map encI ++ (cs.take 1).map encI), .tuple (List.replicate 80 one1), .tuple (List.replicate 81 one1), t]
theorem j5 {g : List D → FR} {d d1 t l : D} {s2 s4 s6 s7 : Sl} {cs : List (List Int)} (hz : cs.length ≤ 80) (e : g [d, .list (lotL cs t)] = .ok false l [d1]) :
    sSet 5 (mCall g [.mu, .pl] (aCons (mV 0) (aCons (mLst (kCons (m2 fAdd (mV 1) (mTup (kCons (mV 3) kNil))) (kCons (mTup (kCons (mV 3) kNil)) (kCons (mLst (kCons (mV 3) kNil)) (kCons (m2 fAdd (mV 1) (mSl fSl (mV 1) bNo (bAt (mC (.int 1))))) (kCons (m2 fRepT (mTup (kCons (mTup (kCons (mC (.int 1)) kNil)) kNil)) (mC (.int 80))) (kCons (m2 fRepT (mTup (kCons (mTup (kCons (mC (.int 1)) kNil)) kNil)) (mC (.int 81))) (kCons (mV 3) kNil)))))))) aNil))) [.le d, .cl (encC cs), s2, .cl t, s4, .un, s6, s7] = .ok .nx [.le d1, .cl (encC cs), s2, .cl t, s4, .cl l, s6, s7] := by
  have h7 : 7 ≤ sizeLine := by decide
  have ct := cut_toI (cs.map encI) (i := 1) (by decide)
  rw [← List.map_take, show (1 : Int).toNat = 1 from rfl] at ct
  have k1 : cs.length + 1 ≤ sizeLine := Nat.le_trans (show _ ≤ 81 by omega) (by decide)
  have k2 : cs.length + (cs.take 1).length ≤ sizeLine := by
    rw [List.length_take]; exact Nat.le_trans (show _ ≤ 81 by omega) (by decide)
  have r80 := rep80
  have r81 := rep81
  unfold lotL at e
  generalize List.replicate 80 one1 = R80 at *
  generalize List.replicate 81 one1 = R81 at *
  generalize cs.take 1 = c1 at *
  simp -implicitDefEqProofs [h7, ct, k1, k2, r80, r81, one_size, e]
theorem one_jok : JOk one1 := ⟨rfl, fun ds e => by
  cases e
  exact ⟨by decide, fun x hx => by rw [List.mem_singleton] at hx; subst hx; rfl⟩⟩
theorem c_jok {c : List Int} (h : ClOk c) : JOk (encI c) := ⟨rfl, fun ds e => by
  cases e
  refine ⟨by rw [List.length_map]; have := h.len; omega, fun x hx => ?_⟩
  obtain ⟨i, _, rfl⟩ := List.mem_map.mp hx
  rfl⟩
theorem lot_ok {cs : List (List Int)} {t : D} (hc : CsOk cs) (ht : Th t) : ∀ l ∈ lotL cs t, JsOk l := fun l hl => by
  have hz := hc.many
  have cj : ∀ x ∈ cs.map encI, JOk x := fun x hx => by
    obtain ⟨c, h, rfl⟩ := List.mem_map.mp hx
    exact c_jok (hc.ok c h)
  have cj2 : ∀ x ∈ (cs.take 1).map encI, JOk x := fun x hx => by
    obtain ⟨c, h, rfl⟩ := List.mem_map.mp hx
    exact c_jok (hc.ok c (List.mem_of_mem_take h))
  unfold lotL at hl
  simp only [List.mem_cons, List.not_mem_nil, or_false] at hl
  rcases hl with rfl | rfl | rfl | rfl | rfl | rfl | rfl
  · refine ⟨rfl, fun ds e => ?_⟩
    cases e
    refine ⟨by rw [List.length_append, List.length_map]; show _ + 1 ≤ _; omega, fun x hx => ?_⟩
    rcases List.mem_append.mp hx with m | m
    · exact cj x m
    · rw [List.mem_singleton] at m; subst m; exact ht.jok
  · refine ⟨rfl, fun ds e => ?_⟩
    cases e
    exact ⟨(show 1 ≤ 1000 by decide), fun x hx => by rw [List.mem_singleton] at hx; subst hx; exact ht.jok⟩
  · exact ⟨rfl, fun ds e => nomatch e⟩
  · refine ⟨rfl, fun ds e => ?_⟩
    cases e
    refine ⟨by rw [List.length_append, List.length_map, List.length_map, List.length_take]; omega, fun x hx => ?_⟩
    rcases List.mem_append.mp hx with m | m
    · exact cj x m
    · exact cj2 x m
  · refine ⟨rfl, fun ds e => ?_⟩
    cases e
    exact ⟨by rw [List.length_replicate]; decide, fun x hx => by rw [List.eq_of_mem_replicate hx]; exact one_jok⟩
  · refine ⟨rfl, fun ds e => ?_⟩
    cases e
    exact ⟨by rw [List.length_replicate]; decide, fun x hx => by rw [List.eq_of_mem_replicate hx]; exact one_jok⟩
  · exact ht.jsok
theorem j6 {d l : D} {s1 s2 s3 s4 : Sl} (j : JsOk l) :
    sSet 6 (mAndV (mT (m1 (fIsi ["tuple"]) (mV 5))) (mAndV (mT (m2 fLe (mB (f1 fLen) (aCons (mV 5) aNil)) (mC (.int 80)))) (mB (f1 fAll) (aCons (mLc (iSeqM (mV 5)) (tName 7) tYesM m__law_are_judged_1 [7]) aNil)))) [.le d, s1, s2, s3, s4, .cl l, .un, .un] = .ok .nx [.le d, s1, s2, s3, s4, .cl l, .cl (.bool (clsD l)), .un] := by
  cases l with
  | tuple ds =>
    obtain ⟨hz, hi⟩ := j.it ds rfl
    have c1 : mLc (iSeqM (mV 5)) (tName 7) tYesM m__law_are_judged_1 [7] [.le d, s1, s2, s3, s4, .cl (.tuple ds), .un, .un] = .ok (.fr (.list (ds.map fun d => .bool (clD d)))) [.le d, s1, s2, s3, s4, .cl (.tuple ds), .un, .un] :=
      mLc_map _ (by simp -implicitDefEqProofs) rfl (Nat.le_trans hz k1000) fun d hd => by
        have e := law_is_clause (hi d hd)
        simp -implicitDefEqProofs [m__law_are_judged_1, e]
    have a1 := fAll_map clD ds
    by_cases h : (ds.length : Int) ≤ 80
    · have h2 : ds.length ≤ 80 := by omega
      simp -implicitDefEqProofs [c1, a1, clsD, h, h2]
    · have h2 : ¬ ds.length ≤ 80 := by omega
      simp -implicitDefEqProofs [clsD, h, h2]
  | dict ks =>
    have ok : plainK ks = true := j.ok
    simp -implicitDefEqProofs [clsD, ok]
  | _ => simp -implicitDefEqProofs [clsD]
theorem same_bb (a b : Bool) : g__law_same 12 [.list [.bool a, .bool b], .list [.bool a, .bool b]] = .ok false (.bool true) [] :=
  same 11 _ (.lst (n := 10) (fun d hd => by
    simp only [List.mem_cons, List.not_mem_nil, or_false] at hd
    rcases hd with rfl | rfl
    · exact .bool _ _
    · exact .bool _ _) (show 2 ≤ sizeLine by decide)) (by decide)
theorem j7 {d t l : D} {s1 s2 : Sl} (jt : JOk t) (rt : reprB t = true) (j : JsOk l) :
    sIf (mOr (mNot (mTr (mCall (g__law_same 12) [.pl, .pl] (aCons (mLst (kCons (mCall g_is_clause [.pl] (aCons (mV 3) aNil)) (kCons (mCall g_is_clauses [.pl] (aCons (mV 5) aNil)) kNil))) (aCons (mLst (kCons (mCall g__law_is_clause [.pl] (aCons (mV 3) aNil)) (kCons (mV 6) kNil))) aNil))))) (mT (m2 fNeS (mB (f1 fRepr) (aCons (mV 3) aNil)) (mV 4)))) (sRet (mC (.bool false))) sNx [.le d, s1, s2, .cl t, .cl (.str t.shown), .cl l, .cl (.bool (clsD l)), .un] = .ok .nx [.le d, s1, s2, .cl t, .cl (.str t.shown), .cl l, .cl (.bool (clsD l)), .un] := by
  have e1 := is_clause_any jt
  have e2 := is_clauses_any j
  have e3 := law_is_clause jt
  have e4 := same_bb (clD t) (clsD l)
  have er : fRepr t = some (.val (.str t.shown)) := by unfold fRepr; rw [if_pos rt]
  generalize clD t = b1 at *
  generalize clsD l = b2 at *
  generalize t.shown = z at *
  have er2 : f1 fRepr [t] = some (.val (.str z)) := er
  simp -implicitDefEqProofs [e1, e2, e3, e4, er2, two_size, truD]
theorem j4 {d t : D} {s1 s2 s5 s6 s7 : Sl} (rt : reprB t = true) : sSet 4 (mB (f1 fRepr) (aCons (mV 3) aNil)) [.le d, s1, s2, .cl t, .un, s5, s6, s7] = .ok .nx [.le d, s1, s2, .cl t, .cl (.str t.shown), s5, s6, s7] := by
  have er : f1 fRepr [t] = some (.val (.str t.shown)) := by
    show fRepr t = _
    unfold fRepr; rw [if_pos rt]
  generalize t.shown = z at *
  simp -implicitDefEqProofs [er]
theorem j3 {g : List D → FR} {d d1 t : D} {c : D} {s2 : Sl} (e : g [d, c] = .ok false t [d1]) : sSet 3 (mCall g [.mu, .pl] (aCons (mV 0) (aCons (mV 1) aNil))) [.le d, .cl c, s2, .un, .un, .un, .un, .un] = .ok .nx [.le d1, .cl c, s2, .cl t, .un, .un, .un, .un] := by
  simp -implicitDefEqProofs [e]
theorem kl_nx {is : List Nat} {m : M Fl} {ρ ρ1 : Ev} (h : m ρ = .ok .nx ρ1) : sKl is m ρ = .ok .nx (klA is ρ1) := by
  unfold sKl; rw [h]; rfl
theorem are_judged {h : Hnd} {n : Nat} {cs : List (List Int)} (w : h.Ok (n + 300)) (hc : CsOk cs) : ∃ h', g__law_are_judged [h.d, encC cs] = .ok false (.bool true) [Hnd.d h'] ∧ h'.Ok n := by
  have hz := hc.many
  let P : Nat → Ev → Prop := fun i ρ => ∃ (k : Hnd), ρ = [.le k.d, .cl (encC cs), .un, .un, .un, .un, .un, .un] ∧ k.Ok (n + 60 * (5 - i))
  obtain ⟨ρ', e, k, eρ, wk⟩ := forI_inv (t := tName 2) (b := m__law_are_judged_2) (P := P) (rngD 0 5) 0 [.le h.d, .cl (encC cs), .un, .un, .un, .un, .un, .un] ⟨h, rfl, w⟩ fun i x ρ hx hp => by
    obtain ⟨k, eρ, wk⟩ := hp
    rw [Nat.zero_add] at wk ⊢
    subst eρ
    have hi : i < 5 := by
      have := (List.getElem?_eq_some_iff.mp hx).1
      rwa [rngD_len] at this
    obtain ⟨t, k1, e1, tt, w1⟩ := law_near (h := k) (n := n + 60 * (5 - (i + 1)) + 10) (wk.mono (by omega)) hc
    obtain ⟨l, k2, e2, ml, w2⟩ := any (h := k1) (n := n + 60 * (5 - (i + 1)) + 9) w1 (ds := lotL cs t) (by simp [lotL]) (show 7 < 1000000 by decide)
    have jl := lot_ok hc tt l ml
    have b3 := j3 (s2 := .cl x) e1
    have b4 := j4 (d := k1.d) (s1 := .cl (encC cs)) (s2 := .cl x) (s5 := .un) (s6 := .un) (s7 := .un) tt.repr
    have b5 := j5 (s2 := .cl x) (s4 := .cl (.str t.shown)) (s6 := .un) (s7 := .un) hz e2
    have b6 := j6 (d := k2.d) (s1 := .cl (encC cs)) (s2 := .cl x) (s3 := .cl t) (s4 := .cl (.str t.shown)) jl
    have b7 := j7 (d := k2.d) (s1 := .cl (encC cs)) (s2 := .cl x) tt.jok tt.repr jl
    refine ⟨[.le k.d, .cl (encC cs), .cl x, .un, .un, .un, .un, .un], [.le k2.d, .cl (encC cs), .un, .un, .un, .un, .un, .un], by simp, .inl ?_, k2, rfl, w2.mono (by omega)⟩
    unfold m__law_are_judged_2
    refine (kl_nx ((seq_nx b3).trans ((seq_nx b4).trans ((seq_nx b5).trans ((seq_nx b6).trans b7))))).trans ?_
    simp [isLe]
  subst eρ
  have ec := is_clauses_eq hz fun c h => (hc.ok c h).size
  rw [show cs.all clB = true from List.all_eq_true.mpr fun c h => (hc.ok c h).clB] at ec
  have fi : fIs (.bool true) (.bool true) = some (.val (.bool true)) := rfl
  have rg := rng1_of (j := 5) (by decide) (by decide)
  refine ⟨k, ?_, wk.mono (by omega)⟩
  generalize h.d = hd at *
  simp -implicitDefEqProofs [g__law_are_judged, runD, m__law_are_judged, rg, e, isLe, ec, fi]
end Wk
set_option maxHeartbeats 2000000
namespace Wk
open PySem PySem.Spec L2 Vx Lb
def handK (ns : List Int) : Hnd := ⟨ns.map absI, 0, 0, 967 + 61 * (ns.length : Nat), 0⟩
theorem law_handK {ns : List Int} (hz : ns.length ≤ 63) : Wk.g__law_hand [.list (ns.map .int)] = .ok true (handK ns).d [] := by
  have ct : cutD (ns.map PyData.int) none (some 63) = ns.map .int := by
    have := cut_toI (ns.map PyData.int) (i := 63) (by decide)
    rw [this, List.take_of_length_le (by rw [List.length_map]; exact hz)]
  have c1 : mLc (iSeqM (mSl fSl (mV 0) bNo (bAt (mC (.int 63))))) (tName 2) tYesM Wk.m__law_hand_1 [2] [.bo (.list (ns.map .int)), .un, .un] = .ok (.fr (.list (ns.map fun i => .int (absI i)))) [.bo (.list (ns.map .int)), .un, .un] :=
    mLc_encM .int _ (by simp -implicitDefEqProofs [ct]) rfl (Nat.le_trans hz (by decide)) fun x _ => by simp -implicitDefEqProofs [Wk.m__law_hand_1]
  have hm : (ns.map fun i => PyData.int (absI i)) = (ns.map absI).map .int := by rw [List.map_map]; rfl
  rw [hm] at c1
  have hl : (ns.map absI).length = ns.length := List.length_map _
  have mu := fMul_int (i := 61) (j := (ns.length : Nat)) (okMul_of (a := 8) (b := 8) (by decide) (by omega) (by decide))
  unfold handK Hnd.d
  dsimp only
  generalize ns.map absI = cs at c1 hl ⊢
  simp -implicitDefEqProofs [Wk.g__law_hand, runD, Wk.m__law_hand, c1, hl, mu, five_size]
theorem handK_ok {ns : List Int} (hz : ns.length ≤ 63) (hb : ∀ z ∈ ns, z.natAbs < 2 ^ 1048576) {n : Nat} (hn : n ≤ 1000000) : (handK ns).Ok n := by
  refine ⟨fun c hc => ?_, Int.le_refl 0, ?_, Int.le_refl 0, ?_⟩
  · obtain ⟨i, hi, rfl⟩ := List.mem_map.mp hc
    have := hb i hi
    have e : (absI i).natAbs = i.natAbs := by unfold absI; split <;> omega
    exact ⟨by unfold absI; split <;> omega, by rw [e]; exact this⟩
  · show 0 ≤ (967 + 61 * (ns.length : Nat) : Int) ∧ (967 + 61 * (ns.length : Nat) : Int) < 4294967296
    omega
  · show (0 : Int) + n ≤ 18446744073709551616
    omega
theorem tr_encI (n : Nat) {c : List Int} (h : c.length ≤ sizeLine) : Tr (n + 1) (encI c) := .tup (fun d hd => by
  obtain ⟨i, _, rfl⟩ := List.mem_map.mp hd
  exact .int n i) (by rw [List.length_map]; exact h)
theorem many_4 {cs : List (List Int)} (hg : ∀ c ∈ cs, Good c) : manyI cs ≤ 4 := many_up (by decide) fun c hc x hx => (hg c hc).four x hx
abbrev lE (s0 : Sl) (d : D) (s2 s3 s4 s5 s6 s7 s8 s9 s10 : Sl) : Ev := [s0, .ow d, s2, s3, s4, s5, s6, s7, s8, s9, s10, .un, .un, .un]
theorem law_is1 {k j : List D → FR} {s0 : Sl} {d : D} (e1 : j [encI [1, 2], encI [-1, 3], .int 1] = .ok false (encI [2, 3]) []) (e2 : j [encI [1, 2], encI [-1, -2], .int 1] = .ok false .none []) (e3 : j [encI [1], encI [-1], .int 1] = .ok false (encI []) []) (e4 : k [.list [encI [2, 3], .none, encI []], .list [encI [2, 3], .none, encI []]] = .ok false (.bool true) []) :
    sIf (mNot (mTr (mCall k [.pl, .pl] (aCons (mLst (kCons (mCall j [.pl, .pl, .pl] (aCons (mTup (kCons (mC (.int 1)) (kCons (mC (.int 2)) kNil))) (aCons (mTup (kCons (m1 fNeg (mC (.int 1))) (kCons (mC (.int 3)) kNil))) (aCons (mC (.int 1)) aNil)))) (kCons (mCall j [.pl, .pl, .pl] (aCons (mTup (kCons (mC (.int 1)) (kCons (mC (.int 2)) kNil))) (aCons (mTup (kCons (m1 fNeg (mC (.int 1))) (kCons (m1 fNeg (mC (.int 2))) kNil))) (aCons (mC (.int 1)) aNil)))) (kCons (mCall j [.pl, .pl, .pl] (aCons (mTup (kCons (mC (.int 1)) kNil)) (aCons (mTup (kCons (m1 fNeg (mC (.int 1))) kNil)) (aCons (mC (.int 1)) aNil)))) kNil)))) (aCons (mLst (kCons (mTup (kCons (mC (.int 2)) (kCons (mC (.int 3)) kNil))) (kCons (mC .none) (kCons (mTup kNil) kNil)))) aNil))))) (sRet (mC (.bool false))) sNx (lE s0 d .un .un .un .un .un .un .un .un .un) = .ok .nx (lE s0 d .un .un .un .un .un .un .un .un .un) := by
  have n1 : fNeg (.int 1) = some (.val (.int (-1))) := rfl
  have n2 : fNeg (.int 2) = some (.val (.int (-2))) := rfl
  have z3 : 3 ≤ sizeLine := by decide
  simp only [encI, List.map_cons, List.map_nil] at e1 e2 e3 e4
  simp -implicitDefEqProofs [e1, e2, e3, e4, n1, n2, one_size, two_size, z3, truD_bool]
theorem law_is2 {k m b : List D → FR} {s0 : Sl} {d : D} (e1 : m [encC [[1], [-2]]] = .ok true (.list [encI [1, 0]]) []) (e2 : m [encC []] = .ok true (.list [encI []]) []) (e3 : m [encC [[]]] = .ok true (.list []) []) (e5 : b [encC [[1], [-1, 2]], encI [0, 0]] = .ok false (encI [0]) []) (e4 : k [.list [.list [encI [1, 0]], .list [encI []], .list [], encI [0]], .list [.list [encI [1, 0]], .list [encI []], .list [], encI [0]]] = .ok false (.bool true) []) :
    sIf (mNot (mTr (mCall k [.pl, .pl] (aCons (mLst (kCons (mCall m [.pl] (aCons (mTup (kCons (mTup (kCons (mC (.int 1)) kNil)) (kCons (mTup (kCons (m1 fNeg (mC (.int 2))) kNil)) kNil))) aNil)) (kCons (mCall m [.pl] (aCons (mTup kNil) aNil)) (kCons (mCall m [.pl] (aCons (mTup (kCons (mTup kNil) kNil)) aNil)) (kCons (mCall b [.pl, .pl] (aCons (mTup (kCons (mTup (kCons (mC (.int 1)) kNil)) (kCons (mTup (kCons (m1 fNeg (mC (.int 1))) (kCons (mC (.int 2)) kNil))) kNil))) (aCons (mTup (kCons (mC (.int 0)) (kCons (mC (.int 0)) kNil))) aNil))) kNil))))) (aCons (mLst (kCons (mLst (kCons (mTup (kCons (mC (.int 1)) (kCons (mC (.int 0)) kNil))) kNil)) (kCons (mLst (kCons (mTup kNil) kNil)) (kCons (mLst kNil) (kCons (mTup (kCons (mC (.int 0)) kNil)) kNil))))) aNil))))) (sRet (mC (.bool false))) sNx (lE s0 d .un .un .un .un .un .un .un .un .un) = .ok .nx (lE s0 d .un .un .un .un .un .un .un .un .un) := by
  have n1 : fNeg (.int 1) = some (.val (.int (-1))) := rfl
  have n2 : fNeg (.int 2) = some (.val (.int (-2))) := rfl
  have z4 : 4 ≤ sizeLine := by decide
  simp only [encI, encC, List.map_cons, List.map_nil] at e1 e2 e3 e4 e5
  simp -implicitDefEqProofs [e1, e2, e3, e4, e5, n1, n2, one_size, two_size, z4, truD_bool]
theorem cl_of {c : List Int} (h : c.all (fun x => decide (-12 ≤ x) && decide (x ≤ 12) && decide (x ≠ 0)) = true) (u : c.Pairwise fun a b => absI a < absI b) : ClOk c := ⟨fun x hx => by
  have := List.all_eq_true.mp h x hx
  simp only [Bool.and_eq_true, decide_eq_true_eq] at this
  omega, u⟩
theorem x1 : resO [1, 2] [-1, 3] 1 = some [2, 3] := by
  show some (sAbs [2, 3]) = _
  have d : [(2 : Int), 3].Pairwise fun a b => absI a ≠ absI b := by decide
  obtain ⟨u, p⟩ := sAbs_up d
  rw [up_ext u (by decide : [(2 : Int), 3].Pairwise fun a b => absI a < absI b) (fun x hx => p.mem_iff.mp hx) fun x hx => p.mem_iff.mpr hx]
theorem x2 : resO [1, 2] [-1, -2] 1 = none := by decide
theorem x3 : resO [1] [-1] 1 = some [] := by
  show some (sAbs []) = _
  have d : ([] : List Int).Pairwise fun a b => absI a ≠ absI b := by decide
  obtain ⟨u, p⟩ := sAbs_up d
  rw [List.Perm.eq_nil p]
theorem fix1 {s0 : Sl} {d : D} : sIf (mNot (mTr (mCall (g__law_same 12) [.pl, .pl] (aCons (mLst (kCons (mCall g_resolvent [.pl, .pl, .pl] (aCons (mTup (kCons (mC (.int 1)) (kCons (mC (.int 2)) kNil))) (aCons (mTup (kCons (m1 fNeg (mC (.int 1))) (kCons (mC (.int 3)) kNil))) (aCons (mC (.int 1)) aNil)))) (kCons (mCall g_resolvent [.pl, .pl, .pl] (aCons (mTup (kCons (mC (.int 1)) (kCons (mC (.int 2)) kNil))) (aCons (mTup (kCons (m1 fNeg (mC (.int 1))) (kCons (m1 fNeg (mC (.int 2))) kNil))) (aCons (mC (.int 1)) aNil)))) (kCons (mCall g_resolvent [.pl, .pl, .pl] (aCons (mTup (kCons (mC (.int 1)) kNil)) (aCons (mTup (kCons (m1 fNeg (mC (.int 1))) kNil)) (aCons (mC (.int 1)) aNil)))) kNil)))) (aCons (mLst (kCons (mTup (kCons (mC (.int 2)) (kCons (mC (.int 3)) kNil))) (kCons (mC .none) (kCons (mTup kNil) kNil)))) aNil))))) (sRet (mC (.bool false))) sNx (lE s0 d .un .un .un .un .un .un .un .un .un) = .ok .nx (lE s0 d .un .un .un .un .un .un .un .un .un) := by
  have c1 : ClOk [1, 2] := cl_of (by decide) (by decide)
  have c2 : ClOk [-1, 3] := cl_of (by decide) (by decide)
  have c3 : ClOk [-1, -2] := cl_of (by decide) (by decide)
  have c4 : ClOk [1] := cl_of (by decide) (by decide)
  have c5 : ClOk [-1] := cl_of (by decide) (by decide)
  have e1 := resolvent_eq c1 c2 (a := 1) (by decide) (by decide)
  have e2 := resolvent_eq c1 c3 (a := 1) (by decide) (by decide)
  have e3 := resolvent_eq c4 c5 (a := 1) (by decide) (by decide)
  rw [x1] at e1
  rw [x2] at e2
  rw [x3] at e3
  refine law_is1 e1 e2 e3 (same 11 _ (Tr.mono (n := 2) (.lst (fun d hd => ?_) (by decide)) (by decide)) (by decide))
  simp only [List.mem_cons, List.not_mem_nil, or_false] at hd
  rcases hd with e | e | e <;> subst e
  · exact tr_encI 0 (by decide)
  · exact .none _
  · exact tr_encI 0 (by decide)
theorem fix2 {s0 : Sl} {d : D} : sIf (mNot (mTr (mCall (g__law_same 12) [.pl, .pl] (aCons (mLst (kCons (mCall g_models_of [.pl] (aCons (mTup (kCons (mTup (kCons (mC (.int 1)) kNil)) (kCons (mTup (kCons (m1 fNeg (mC (.int 2))) kNil)) kNil))) aNil)) (kCons (mCall g_models_of [.pl] (aCons (mTup kNil) aNil)) (kCons (mCall g_models_of [.pl] (aCons (mTup (kCons (mTup kNil) kNil)) aNil)) (kCons (mCall g_broken [.pl, .pl] (aCons (mTup (kCons (mTup (kCons (mC (.int 1)) kNil)) (kCons (mTup (kCons (m1 fNeg (mC (.int 1))) (kCons (mC (.int 2)) kNil))) kNil))) (aCons (mTup (kCons (mC (.int 0)) (kCons (mC (.int 0)) kNil))) aNil))) kNil))))) (aCons (mLst (kCons (mLst (kCons (mTup (kCons (mC (.int 1)) (kCons (mC (.int 0)) kNil))) kNil)) (kCons (mLst (kCons (mTup kNil) kNil)) (kCons (mLst kNil) (kCons (mTup (kCons (mC (.int 0)) kNil)) kNil))))) aNil))))) (sRet (mC (.bool false))) sNx (lE s0 d .un .un .un .un .un .un .un .un .un) = .ok .nx (lE s0 d .un .un .un .un .un .un .un .un .un) := by
  have k1 : CsOk [[1], [-2]] := ⟨by decide, fun c hc => by
    simp only [List.mem_cons, List.not_mem_nil, or_false] at hc
    rcases hc with e | e <;> subst e <;> exact cl_of (by decide) (by decide)⟩
  have k2 : CsOk [] := ⟨by decide, fun c hc => nomatch hc⟩
  have k3 : CsOk [[]] := ⟨by decide, fun c hc => by
    simp only [List.mem_cons, List.not_mem_nil, or_false] at hc
    subst hc; exact cl_of (by decide) (by decide)⟩
  have k4 : CsOk [[1], [-1, 2]] := ⟨by decide, fun c hc => by
    simp only [List.mem_cons, List.not_mem_nil, or_false] at hc
    rcases hc with e | e <;> subst e <;> exact cl_of (by decide) (by decide)⟩
  have e1 := models_of k1 (by decide)
  rw [show modelsL [[1], [-2]] (manyI [[1], [-2]]).toNat = [[1, 0]] by decide] at e1
  have e2 := models_of k2 (by decide)
  rw [show modelsL [] (manyI []).toNat = [[]] by decide] at e2
  have e3 := models_of k3 (by decide)
  rw [show modelsL [[]] (manyI [[]]).toNat = [] by decide] at e3
  have e5 := broken_eq k4 (m := 2) (by decide) (w := [0, 0]) (by decide)
  rw [show brokenL [[1], [-1, 2]] [0, 0] = [0] by decide] at e5
  refine law_is2 e1 e2 e3 e5 (same 11 _ (Tr.mono (n := 3) (.lst (fun d hd => ?_) (by decide)) (by decide)) (by decide))
  simp only [List.mem_cons, List.not_mem_nil, or_false] at hd
  rcases hd with e | e | e | e <;> subst e
  · exact .lst (fun d hd => by rw [List.mem_singleton] at hd; subst hd; exact tr_encI 0 (by decide)) (by decide)
  · exact .lst (fun d hd => by rw [List.mem_singleton] at hd; subst hd; exact tr_encI 0 (by decide)) (by decide)
  · exact .lst (fun d hd => nomatch hd) (by decide)
  · exact tr_encI 1 (by decide)
end Wk
set_option maxHeartbeats 2000000
namespace Wk
open PySem PySem.Spec L2 Vx Lb
theorem iSeq_ok {m : M Op} {ρ ρ1 : Ev} {ds : List D} (h : m ρ = .ok (.fr (.list ds)) ρ1) : iSeqM m ρ = .ok ds ρ1 := by
  simp -implicitDefEqProofs [h]
theorem m3 {g t : List D → FR} {s0 s2 s4 s6 : Sl} {d d1 d2 x i : D} {cs : List (List Int)} {c : List Int} (hz : cs.length ≤ 80) (e1 : t [d, .int 4, .int 3] = .ok false (encI c) [d1]) (e2 : g [d1, .list ((cs ++ [c]).map encI)] = .ok false x [d2]) :
    mK (mCall g [.mu, .pl] (aCons (mV 1) (aCons (m2 fAdd (mB (f1 fList) (aCons (mV 3) aNil)) (mLst (kCons (mCall t [.mu, .pl, .pl] (aCons (mV 1) (aCons (mC (.int 4)) (aCons (mC (.int 3)) aNil)))) kNil))) aNil))) [s0, .ow d, s2, .cl (encC cs), s4, .un, s6, .un, .un, .un, .un, .cl i, .un, .un] = .ok x [s0, .ow d2, s2, .cl (encC cs), s4, .un, s6, .un, .un, .un, .un, .cl i, .un, .un] := by
  have hz2 : cs.length + 1 ≤ sizeLine := Nat.le_trans (show _ ≤ 81 by omega) (by decide)
  rw [List.map_append] at e2
  have e2 : g [d1, .list (cs.map encI ++ [encI c])] = .ok false x [d2] := e2
  simp -implicitDefEqProofs [e1, e2, hz2, one_size]
theorem q1t {M : M Op} {s0 s2 s3 s4 s6 : Sl} {d d1 a b : D} (e : M [s0, .ow d, s2, s3, s4, .un, s6, .un, .un, .un, .un, .un, .un, .un] = .ok (.fr (.list [a, b])) [s0, .ow d1, s2, s3, s4, .un, s6, .un, .un, .un, .un, .un, .un, .un]) : sTg (tLst (tsCons (tName 9) (tsCons (tName 10) tsNil))) M [s0, .ow d, s2, s3, s4, .un, s6, .un, .un, .un, .un, .un, .un, .un] = .ok .nx [s0, .ow d1, s2, s3, s4, .un, s6, .un, .un, .cl a, .cl b, .un, .un, .un] := by
  simp -implicitDefEqProofs [e]
theorem each2 {α β : Type} {G : α → β → Prop} {x y : α} {zs : List β} (h : PySem.W.EachIs G [x, y] zs) : ∃ a b, zs = [a, b] ∧ G x a ∧ G y b := by
  cases h with
  | cons g1 h => cases h with
    | cons g2 h => cases h; exact ⟨_, _, rfl, g1, g2⟩
theorem q1 {h : Hnd} {n : Nat} {s0 s2 s4 s6 : Sl} {cs : List (List Int)} (w : h.Ok (n + 20)) (hz : cs.length ≤ 80) (hg : ∀ c ∈ cs, Good c) : ∃ a b h', sTg (tLst (tsCons (tName 9) (tsCons (tName 10) tsNil))) (mLc (iFn rng1 (aCons (mC (.int 2)) aNil)) (tName 11) tYesM m_law_3 [11]) [s0, .ow h.d, s2, .cl (encC cs), s4, .un, s6, .un, .un, .un, .un, .un, .un, .un] = .ok .nx [s0, .ow (Hnd.d h'), s2, .cl (encC cs), s4, .un, s6, .un, .un, .cl (encI a), .cl (encI b), .un, .un, .un] ∧ Good a ∧ Good b ∧ h'.Ok n := by
  have rg := rng1_of (j := 2) (by decide) (by decide)
  rw [rngD_map] at rg
  obtain ⟨zs, h', c1, q, w2⟩ := mLc_stM (it := iFn rng1 (aCons (mC (.int 2)) aNil)) (e := m_law_3) (v := 11) (ρ := [s0, .ow h.d, s2, .cl (encC cs), s4, .un, s6, .un, .un, .un, .un, .un, .un, .un]) (fun s : Hnd => [s0, .ow s.d, s2, .cl (encC cs), s4, .un, s6, .un, .un, .un, .un, .un, .un, .un]) (fun m s => s.Ok (n + 10 * m)) (fun (_ : Nat) c => Good c) (fun i : Nat => PyData.int (i : Nat)) encI (s := h) (l := List.range 2) (x0 := .un) rfl (fun _ => rfl) (by simp -implicitDefEqProofs [rg]) (by decide) w fun x hx m s ws => by
    obtain ⟨c, s1, e1, oc, lc, w1⟩ := law_clause (h := s) (n := n + 10 * m + 1) (k := 4) (m := 3) (ws.mono (by omega)) (by decide) (by decide)
    rw [show ((4 : Nat) : Int) = 4 from rfl, show ((3 : Nat) : Int) = 3 from rfl] at e1
    obtain ⟨dx, s2', e2, mx, w2⟩ := any (h := s1) (n := n + 10 * m) w1 (ds := (cs ++ [c]).map encI) (by simp) (by rw [List.length_map, List.length_append]; show _ + 1 < _; omega)
    obtain ⟨x', hx', rfl⟩ := List.mem_map.mp mx
    refine ⟨s2', x', w2, m3 (i := .int (x : Nat)) hz e1 e2, ?_⟩
    rcases List.mem_append.mp hx' with m | m
    · exact hg x' m
    · rw [List.mem_singleton] at m; subst m; exact ⟨oc, fun x hx => by have := lc x hx; omega⟩
  obtain ⟨a, b, rfl, ga, gb⟩ := each2 (x := 0) (y := 1) (by rw [show List.range 2 = [0, 1] from rfl] at q; exact q)
  exact ⟨a, b, h', q1t c1, ga, gb, w2⟩
theorem q2 {g : List D → FR} {s0 s2 s3 s4 s6 s10 : Sl} {d d1 : D} {a : List Int} {v : Int} (hz : a.length ≤ 12) (e : g [d, .list ((a.map absI ++ [1, 2, 12]).map .int)] = .ok false (.int v) [d1]) :
    sSet 7 (mCall g [.mu, .pl] (aCons (mV 1) (aCons (m2 fAdd (mLc (iSeqM (mV 9)) (tName 12) tYesM m_law_2 [12]) (mLst (kCons (mC (.int 1)) (kCons (mC (.int 2)) (kCons (mC (.int 12)) kNil))))) aNil))) [s0, .ow d, s2, s3, s4, .un, s6, .un, .un, .cl (encI a), s10, .un, .un, .un] = .ok .nx [s0, .ow d1, s2, s3, s4, .un, s6, .cl (.int v), .un, .cl (encI a), s10, .un, .un, .un] := by
  have c1 : mLc (iSeqM (mV 9)) (tName 12) tYesM m_law_2 [12] [s0, .ow d, s2, s3, s4, .un, s6, .un, .un, .cl (encI a), s10, .un, .un, .un] = .ok (.fr (.list (a.map fun x => .int (absI x)))) [s0, .ow d, s2, s3, s4, .un, s6, .un, .un, .cl (encI a), s10, .un, .un, .un] :=
    mLc_encM .int _ (by simp -implicitDefEqProofs) rfl (f12 hz) fun x _ => by simp -implicitDefEqProofs [m_law_2]
  have h3 : 3 ≤ sizeLine := by decide
  have hz2 : a.length + 3 ≤ sizeLine := Nat.le_trans (show _ ≤ 15 by omega) (by decide)
  have hl : (a.map fun x => PyData.int (absI x)).length = a.length := List.length_map _
  have hm : (a.map absI ++ [1, 2, 12]).map PyData.int = (a.map fun x => PyData.int (absI x)) ++ [.int 1, .int 2, .int 12] := by
    rw [List.map_append, List.map_map]; rfl
  rw [hm] at e
  generalize (a.map fun x => PyData.int (absI x)) = A at *
  simp -implicitDefEqProofs [c1, h3, hz2, hl, e]
theorem q3 {g : List D → FR} {s0 s2 s3 s4 s6 : Sl} {d a b v x : D} (e : g [a, b, v] = .ok false x []) :
    sSet 8 (mCall g [.pl, .pl, .pl] (aCons (mV 9) (aCons (mV 10) (aCons (mV 7) aNil)))) [s0, .ow d, s2, s3, s4, .un, s6, .cl v, .un, .cl a, .cl b, .un, .un, .un] = .ok .nx [s0, .ow d, s2, s3, s4, .un, s6, .cl v, .cl x, .cl a, .cl b, .un, .un, .un] := by
  simp -implicitDefEqProofs [e]
theorem q4 {g k : List D → FR} {s0 s2 s3 s4 s6 : Sl} {d a b v x : D} (e : g [a, b, v] = .ok false x []) (e2 : k [x, x] = .ok false (.bool true) []) :
    sIf (mNot (mTr (mCall k [.pl, .pl] (aCons (mCall g [.pl, .pl, .pl] (aCons (mV 9) (aCons (mV 10) (aCons (mV 7) aNil)))) (aCons (mV 8) aNil))))) (sRet (mC (.bool false))) sNx [s0, .ow d, s2, s3, s4, .un, s6, .cl v, .cl x, .cl a, .cl b, .un, .un, .un] = .ok .nx [s0, .ow d, s2, s3, s4, .un, s6, .cl v, .cl x, .cl a, .cl b, .un, .un, .un] := by
  simp -implicitDefEqProofs [e, e2, truD_bool]
theorem q5i {g k : List D → FR} {s0 s2 s3 s4 s6 s7 s8 : Sl} {d a b : D} {m : Int} {bb : Bool} {ws : List D} (e : g [.tuple [a, b]] = .ok false (.int m) []) (e2 : k [.int m] = .ok bb (.list ws) []) :
    iSeqM (mCall k [.pl] (aCons (mCall g [.pl] (aCons (mTup (kCons (mV 9) (kCons (mV 10) kNil))) aNil)) aNil)) [s0, .ow d, s2, s3, s4, .un, s6, s7, s8, .cl a, .cl b, .un, .un, .un] = .ok ws [s0, .ow d, s2, s3, s4, .un, s6, s7, s8, .cl a, .cl b, .un, .un, .un] := by
  cases bb <;> simp -implicitDefEqProofs [e, e2, two_size]
theorem q5c {s0 s2 s3 s4 s6 s7 s9 s10 : Sl} {d x : D} : mT (m2 fIsNot (mV 8) (mC .none)) [s0, .ow d, s2, s3, s4, .un, s6, s7, .cl x, s9, s10, .un, .un, .un] = .ok (!isNo x) [s0, .ow d, s2, s3, s4, .un, s6, s7, .cl x, s9, s10, .un, .un, .un] := by
  have : ∀ y, fIsNot y .none = some (.val (.bool (!isNo y))) := fun y => by cases y <;> rfl
  simp -implicitDefEqProofs [this]
theorem q5 {s0 s2 s3 s4 s6 s7 : Sl} {d : D} {a b : List Int} {v : Int} (ha : Good a) (hb : Good b) :
    sKl [5] (sIf (mT (m2 fIsNot (mV 8) (mC .none))) (sKl [5] (sFor (iSeqM (mCall g__law_worlds [.pl] (aCons (mCall g__law_many [.pl] (aCons (mTup (kCons (mV 9) (kCons (mV 10) kNil))) aNil)) aNil))) (tName 5) m_law_1)) sNx) [s0, .ow d, s2, s3, s4, .un, s6, s7, .cl (optD (resO a b v)), .cl (encI a), .cl (encI b), .un, .un, .un] = .ok .nx [s0, .ow d, s2, s3, s4, .un, s6, s7, .cl (optD (resO a b v)), .cl (encI a), .cl (encI b), .un, .un, .un] := by
  have qc := q5c (s0 := s0) (s2 := s2) (s3 := s3) (s4 := s4) (s6 := s6) (s7 := s7) (s9 := .cl (encI a)) (s10 := .cl (encI b)) (d := d) (x := optD (resO a b v))
  cases er : resO a b v with
  | none =>
    rw [er] at qc
    refine (kl_nx (if_f (b := sNx) qc)).trans ?_
    simp [isLe]
  | some r =>
    rw [er] at qc
    have hc : CsOk [a, b] := ⟨(show 2 ≤ 80 by decide), fun c h => by
      simp only [List.mem_cons, List.not_mem_nil, or_false] at h
      rcases h with e | e <;> subst e
      · exact ha.ok
      · exact hb.ok⟩
    have hg : ∀ c ∈ [a, b], Good c := fun c h => by
      simp only [List.mem_cons, List.not_mem_nil, or_false] at h
      rcases h with e | e <;> subst e <;> assumption
    have em := law_many (cs := [a, b]) (Nat.le_trans hc.many (by decide)) fun c hcm => Nat.le_trans (hc.ok c hcm).len (by decide)
    have m4 := many_4 hg
    have m0 := many_nn [a, b]
    obtain ⟨m, hm⟩ : ∃ m : Nat, manyI [a, b] = (m : Int) := ⟨(manyI [a, b]).toNat, by omega⟩
    rw [hm] at em
    obtain ⟨bb, eW⟩ := worlds (m := m) (by omega)
    have i5 := q5i (s0 := s0) (s2 := s2) (s3 := s3) (s4 := s4) (s6 := s6) (s7 := s7) (s8 := .cl (optD (some r))) (d := d) (a := encI a) (b := encI b) em eW
    have rl := res_len ha.ok hb.ok er
    let P : Nat → Ev → Prop := fun i ρ => ρ = [s0, .ow d, s2, s3, s4, .un, s6, s7, .cl (optD (some r)), .cl (encI a), .cl (encI b), .un, .un, .un]
    obtain ⟨ρ', e, eρ⟩ := forI_inv (t := tName 5) (b := m_law_1) (P := P) ((worldsL m).map encI) 0 _ rfl fun i dd ρ hd hp => by
      have hp : ρ = _ := hp
      subst hp
      rw [List.getElem?_map] at hd
      cases hci : (worldsL m)[i]? with
      | none => rw [hci] at hd; cases hd
      | some w =>
        rw [hci] at hd
        have hd : encI w = dd := Option.some.inj hd
        subst hd
        have hw := List.mem_of_getElem? hci
        have fa := hc.fits (m := m) (by omega) hw (c := a) (by simp)
        have fb := hc.fits (m := m) (by omega) hw (c := b) (by simp)
        have fr : Fits r w := fun x hx => (res_mem er x hx).elim (fun m => fa x m) fun m => fb x m
        have b1 := breaks fr (Nat.le_trans rl (by decide))
        have b2 := breaks fa ha.ok.size
        have b3 := breaks fb hb.ok.size
        have key := res_breaks (w := w) ha.ok er
        refine ⟨[s0, .ow d, s2, s3, s4, .cl (encI w), s6, s7, .cl (optD (some r)), .cl (encI a), .cl (encI b), .un, .un, .un], _, by simp, .inl ?_, rfl⟩
        have eo : optD (some r) = encI r := rfl
        rw [eo]
        cases k1 : holdsB r w with
        | true =>
          rw [k1] at b1
          simp -implicitDefEqProofs [m_law_1, b1, truD_bool, isLe]
        | false =>
          rw [k1] at b1
          cases k2 : holdsB a w with
          | false =>
            rw [k2] at b2
            simp -implicitDefEqProofs [m_law_1, b1, b2, truD_bool, isLe]
          | true =>
            rw [k2] at b2
            cases k3 : holdsB b w with
            | false =>
              rw [k3] at b3
              simp -implicitDefEqProofs [m_law_1, b1, b2, b3, truD_bool, isLe]
            | true =>
              have := key k2 k3
              rw [k1] at this; cases this
    have eρ : ρ' = _ := eρ
    subst eρ
    refine (kl_nx ((if_t (a := sKl [5] _) qc).trans (kl_nx ((for_nx i5).trans e)))).trans ?_
    simp [isLe]
theorem try_ok {h : Hnd} {n : Nat} {s0 s2 s4 : Sl} {i : D} {cs : List (List Int)} (w : h.Ok (n + 25)) (hz : cs.length ≤ 80) (hg : ∀ c ∈ cs, Good c) : ∃ h', m_law_4 [s0, .ow h.d, s2, .cl (encC cs), s4, .un, .cl i, .un, .un, .un, .un, .un, .un, .un] = .ok .nx [s0, .ow (Hnd.d h'), s2, .cl (encC cs), s4, .un, .un, .un, .un, .un, .un, .un, .un, .un] ∧ h'.Ok n := by
  obtain ⟨a, b, h1, e1, ga, gb, w1⟩ := q1 (h := h) (n := n + 1) (s0 := s0) (s2 := s2) (s4 := s4) (s6 := .cl i) (w.mono (by omega)) hz hg
  obtain ⟨dv, h2, e2, mv, w2⟩ := any (h := h1) (n := n) w1 (ds := (a.map absI ++ [1, 2, 12]).map .int) (by simp) (by
    rw [List.length_map, List.length_append, List.length_map]
    have := ga.ok.len
    show _ + 3 < _; omega)
  obtain ⟨v, hv, rfl⟩ := List.mem_map.mp mv
  have v12 : 1 ≤ v ∧ v ≤ 12 := by
    rcases List.mem_append.mp hv with m | m
    · obtain ⟨x, hx, rfl⟩ := List.mem_map.mp m
      have := ga.ok.atoms x hx
      unfold absI; split <;> omega
    · simp only [List.mem_cons, List.not_mem_nil, or_false] at m
      omega
  have b2 := q2 (s0 := s0) (s2 := s2) (s3 := .cl (encC cs)) (s4 := s4) (s6 := .cl i) (s10 := .cl (encI b)) ga.ok.len e2
  have er := law_resolved_eq (a := v) ga.ok gb.ok
  have es := resolvent_eq (a := v) ga.ok gb.ok v12.1 v12.2
  have sm : g__law_same 12 [optD (resO a b v), optD (resO a b v)] = .ok false (.bool true) [] := by
    refine same 11 _ (Tr.mono (n := 1) ?_ (by decide)) (by decide)
    cases e : resO a b v with
    | none => exact .none _
    | some r => exact tr_encI 0 (Nat.le_trans (res_len ga.ok gb.ok e) (by decide))
  have b3 := q3 (s0 := s0) (s2 := s2) (s3 := .cl (encC cs)) (s4 := s4) (s6 := .cl i) (d := h2.d) er
  have b4 := q4 (s0 := s0) (s2 := s2) (s3 := .cl (encC cs)) (s4 := s4) (s6 := .cl i) (d := h2.d) es sm
  have b5 := q5 (s0 := s0) (s2 := s2) (s3 := .cl (encC cs)) (s4 := s4) (s6 := .cl i) (s7 := .cl (.int v)) (d := h2.d) (v := v) ga gb
  refine ⟨h2, ?_, w2⟩
  unfold m_law_4
  refine (kl_nx ((seq_nx e1).trans ((seq_nx b2).trans ((seq_nx b3).trans ((seq_nx b4).trans b5))))).trans ?_
  simp [isLe]
end Wk
set_option maxHeartbeats 2000000
namespace Wk
open PySem PySem.Spec L2 Vx Lb
theorem p1 {g : List D → FR} {s0 s2 : Sl} {d d1 cs : D} (e : g [d] = .ok false cs [d1]) : sSet 3 (mCall g [.mu] (aCons (mV 1) aNil)) (lE s0 d s2 .un .un .un .un .un .un .un .un) = .ok .nx (lE s0 d1 s2 (.cl cs) .un .un .un .un .un .un .un) := by
  simp -implicitDefEqProofs [e]
theorem p2 {g k : List D → FR} {s0 s2 : Sl} {d cs : D} {m : Int} {b : Bool} {W : List D} (e : g [cs] = .ok false (.int m) []) (e2 : k [.int m] = .ok b (.list W) []) : sSet 4 (mCall k [.pl] (aCons (mCall g [.pl] (aCons (mV 3) aNil)) aNil)) (lE s0 d s2 (.cl cs) .un .un .un .un .un .un .un) = .ok .nx (lE s0 d s2 (.cl cs) (if b then .ow (.list W) else .cl (.list W)) .un .un .un .un .un .un) := by
  cases b <;> simp -implicitDefEqProofs [e, e2]
theorem p3 {mo lm k j : List D → FR} {s0 s2 s4 : Sl} {d d1 cs M : D} (e1 : mo [cs] = .ok true M []) (e2 : lm [cs] = .ok true M []) (e3 : k [M, M] = .ok false (.bool true) []) (e4 : j [d, cs] = .ok false (.bool true) [d1]) :
    sIf (mOr (mNot (mTr (mCall k [.pl, .pl] (aCons (mCall mo [.pl] (aCons (mV 3) aNil)) (aCons (mCall lm [.pl] (aCons (mV 3) aNil)) aNil))))) (mNot (mTr (mCall j [.mu, .pl] (aCons (mV 1) (aCons (mV 3) aNil)))))) (sRet (mC (.bool false))) sNx (lE s0 d s2 (.cl cs) s4 .un .un .un .un .un .un) = .ok .nx (lE s0 d1 s2 (.cl cs) s4 .un .un .un .un .un .un) := by
  simp -implicitDefEqProofs [e1, e2, e3, e4, truD_bool]
theorem m5 {g : List D → FR} {s0 s2 s3 s4 : Sl} {d d1 w i : D} {W : List D} (h4 : s4 = .ow (.list W) ∨ s4 = .cl (.list W)) (e : g [d, .list W] = .ok false w [d1]) : mK (mCall g [.mu, .pl] (aCons (mV 1) (aCons (mV 4) aNil))) [s0, .ow d, s2, s3, s4, .un, .cl i, .un, .un, .un, .un, .un, .un, .un] = .ok w [s0, .ow d1, s2, s3, s4, .un, .cl i, .un, .un, .un, .un, .un, .un, .un] := by
  rcases h4 with rfl | rfl <;> simp -implicitDefEqProofs [e]
theorem p4i {h : Hnd} {n m : Nat} {s0 s2 s3 s4 : Sl} (w : h.Ok (n + 3)) (hm : m ≤ 4) (h4 : s4 = .ow (.list ((worldsL m).map encI)) ∨ s4 = .cl (.list ((worldsL m).map encI))) :
    ∃ (ws : List (List Int)) (h' : Hnd), iSeqM (mLc (iFn rng1 (aCons (mC (.int 3)) aNil)) (tName 6) tYesM m_law_5 [6]) (lE s0 h.d s2 s3 s4 .un .un .un .un .un .un) = .ok (ws.map encI) (lE s0 h'.d s2 s3 s4 .un .un .un .un .un .un) ∧ (∀ w ∈ ws, w ∈ worldsL m) ∧ h'.Ok n := by
  have rg := rng1_of (j := 3) (by decide) (by decide)
  rw [rngD_map] at rg
  have wz : (worldsL m).length ≤ 16 := by
    rw [worlds_count]; exact Nat.pow_le_pow_right (by decide) hm
  have wp : 0 < (worldsL m).length := by rw [worlds_count]; exact Nat.pow_pos (by decide)
  obtain ⟨zs, h', c1, q, w2⟩ := mLc_stM (it := iFn rng1 (aCons (mC (.int 3)) aNil)) (e := m_law_5) (v := 6) (ρ := lE s0 h.d s2 s3 s4 .un .un .un .un .un .un) (fun s : Hnd => lE s0 s.d s2 s3 s4 .un .un .un .un .un .un) (fun m s => s.Ok (n + m)) (fun (_ : Nat) c => c ∈ worldsL m) (fun i : Nat => PyData.int (i : Nat)) encI (s := h) (l := List.range 3) (x0 := .un) rfl (fun _ => rfl) (by simp -implicitDefEqProofs [rg]) (by decide) w fun x hx m' s ws => by
    obtain ⟨dx, s2', e2, mx, w2⟩ := any (h := s) (n := n + m') (ws.mono (by omega)) (ds := (worldsL m).map encI) (by
      intro q
      have := congrArg List.length q
      rw [List.length_map] at this
      simp at this
      rw [this] at wp; exact absurd wp (by decide)) (by rw [List.length_map]; omega)
    obtain ⟨x', hx', rfl⟩ := List.mem_map.mp mx
    exact ⟨s2', x', w2, m5 (i := .int (x : Nat)) h4 e2, hx'⟩
  exact ⟨zs, h', iSeq_ok c1, fun w hw => by
    obtain ⟨_, _, g⟩ := each_memL q w hw
    exact g, w2⟩
theorem tr_ints (n : Nat) {c : List Int} (h : c.length ≤ sizeLine) : Tr (n + 1) (encI c) := tr_encI n h
theorem p4b {s0 s2 s4 : Sl} {d : D} {cs : List (List Int)} (hc : CsOk cs) {m : Nat} (hm : manyI cs = m) {w : List Int} (hw : w ∈ worldsL m) :
    m_law_8 (lE s0 d s2 (.cl (encC cs)) s4 (.cl (encI w)) .un .un .un .un .un) = .ok .nx (lE s0 d s2 (.cl (encC cs)) s4 .un .un .un .un .un .un) := by
  have c1 : mLc (iFnK enm (kiCons (mV 3) kiNil)) (Vx.tTup (tsCons (tName 13) (tsCons (tName 9) tsNil))) m_law_6 m_law_7 [13, 9] (lE s0 d s2 (.cl (encC cs)) s4 (.cl (encI w)) .un .un .un .un .un) = .ok (.fr (.list ((cs.zipIdx.filter fun q => !holdsB q.1 w).map fun q => .int (q.2 : Nat)))) (lE s0 d s2 (.cl (encC cs)) s4 (.cl (encI w)) .un .un .un .un .un) := by
    refine mLc_enc (vs := [13, 9]) (fun q : List Int × Nat => PyData.tuple [.int (q.2 : Nat), encI q.1]) (fun q => !holdsB q.1 w) (fun q => .int (q.2 : Nat)) (l := cs.zipIdx) (ρ1 := lE s0 d s2 (.cl (encC cs)) s4 (.cl (encI w)) .un .un .un .un .un) ?_ rfl (by rw [List.length_zipIdx]; exact Nat.le_trans hc.many (by decide)) fun q hq => ⟨_, (set2 (v := 13) (u := 9) (by decide) rfl rfl).1, (set2 (by decide) rfl rfl).2, ?_, fun _ => ?_⟩
    · have := enum_enc encI cs 0
      simp -implicitDefEqProofs [this]
    · obtain ⟨y, j⟩ := q
      have hy : y ∈ cs := List.mem_of_getElem? (List.mem_zipIdx_iff_getElem?.mp hq)
      have e := breaks (hc.fits (by omega) hw hy) (hc.ok y hy).size
      simp -implicitDefEqProofs [m_law_6, e, truD]
    · simp -implicitDefEqProofs [m_law_7]
  have mm : ((cs.zipIdx.filter fun q => !holdsB q.1 w).map fun q => PyData.int (q.2 : Nat)) = (brokenL cs w).map .int := by
    unfold brokenL; rw [List.map_map]; rfl
  rw [mm] at c1
  have eb := broken_eq hc hm hw
  have bl : (brokenL cs w).length ≤ sizeLine := by
    unfold brokenL
    rw [List.length_map]
    refine Nat.le_trans (List.length_filter_le _ _) ?_
    rw [List.length_zipIdx]; exact Nat.le_trans hc.many (by decide)
  have sm : g__law_same 12 [encI (brokenL cs w), encI (brokenL cs w)] = .ok false (.bool true) [] :=
    same 11 _ (Tr.mono (tr_encI 0 bl) (by decide)) (by decide)
  generalize brokenL cs w = t at *
  unfold m_law_8
  simp -implicitDefEqProofs [c1, eb, sm, truD_bool, isLe]
theorem p4 {s0 s2 s4 : Sl} {d : D} {cs ws : List (List Int)} (hc : CsOk cs) {m : Nat} (hm : manyI cs = m) (hw : ∀ w ∈ ws, w ∈ worldsL m) :
    forI (tName 5) m_law_8 (ws.map encI) (lE s0 d s2 (.cl (encC cs)) s4 .un .un .un .un .un .un) = .ok .nx (lE s0 d s2 (.cl (encC cs)) s4 .un .un .un .un .un .un) := by
  let P : Nat → Ev → Prop := fun i ρ => ρ = lE s0 d s2 (.cl (encC cs)) s4 .un .un .un .un .un .un
  obtain ⟨ρ', e, eρ⟩ := forI_inv (t := tName 5) (b := m_law_8) (P := P) (ws.map encI) 0 _ rfl fun i dd ρ hd hp => by
    have hp : ρ = _ := hp
    subst hp
    rw [List.getElem?_map] at hd
    cases hci : ws[i]? with
    | none => rw [hci] at hd; cases hd
    | some w =>
      rw [hci] at hd
      have hd : encI w = dd := Option.some.inj hd
      subst hd
      exact ⟨lE s0 d s2 (.cl (encC cs)) s4 (.cl (encI w)) .un .un .un .un .un, _, by simp, .inl (p4b hc hm (hw w (List.mem_of_getElem? hci))), rfl⟩
  have eρ : ρ' = _ := eρ
  subst eρ
  exact e
theorem p5 {h : Hnd} {n : Nat} {s0 s2 s4 : Sl} {cs : List (List Int)} (w : h.Ok (n + 150)) (hz : cs.length ≤ 80) (hg : ∀ c ∈ cs, Good c) : ∃ h', forI (tName 6) m_law_4 (rngD 0 6) (lE s0 h.d s2 (.cl (encC cs)) s4 .un .un .un .un .un .un) = .ok .nx (lE s0 (Hnd.d h') s2 (.cl (encC cs)) s4 .un .un .un .un .un .un) ∧ h'.Ok n := by
  let P : Nat → Ev → Prop := fun i ρ => ∃ k : Hnd, ρ = lE s0 k.d s2 (.cl (encC cs)) s4 .un .un .un .un .un .un ∧ k.Ok (n + 25 * (6 - i))
  obtain ⟨ρ', e, k, eρ, wk⟩ := forI_inv (t := tName 6) (b := m_law_4) (P := P) (rngD 0 6) 0 _ ⟨h, rfl, w⟩ fun i dd ρ hd hp => by
    obtain ⟨k, eρ, wk⟩ := hp
    rw [Nat.zero_add] at wk ⊢
    subst eρ
    have hi : i < 6 := by
      have := (List.getElem?_eq_some_iff.mp hd).1
      rwa [rngD_len] at this
    obtain ⟨h', e, w'⟩ := try_ok (h := k) (n := n + 25 * (6 - (i + 1))) (s0 := s0) (s2 := s2) (s4 := s4) (i := dd) (wk.mono (by omega)) hz hg
    exact ⟨[s0, .ow k.d, s2, .cl (encC cs), s4, .un, .cl dd, .un, .un, .un, .un, .un, .un, .un], _, by simp, .inl e, h', rfl, w'⟩
  subst eρ
  exact ⟨k, e, wk.mono (by omega)⟩
theorem lap {h : Hnd} {n : Nat} (w : h.Ok (n + 700)) {s0 : Sl} {i : D} : ∃ (h' : Hnd), h'.Ok n ∧ m_law_9 (lE s0 h.d (.cl i) .un .un .un .un .un .un .un .un) = .ok .nx (lE s0 h'.d .un .un .un .un .un .un .un .un .un) := by
  obtain ⟨cs, h1, e1, cl, cg, w1⟩ := law_clauses (h := h) (n := n + 500) (w.mono (by omega))
  have hc : CsOk cs := ⟨by omega, fun c hcm => (cg c hcm).ok⟩
  have em := law_many (Nat.le_trans hc.many (by decide)) fun c hcm => Nat.le_trans (hc.ok c hcm).len (by decide)
  have m4 := many_4 cg
  have m0 := many_nn cs
  obtain ⟨m, hm⟩ : ∃ m : Nat, manyI cs = (m : Int) := ⟨(manyI cs).toNat, by omega⟩
  rw [hm] at em
  obtain ⟨b, eW⟩ := worlds (m := m) (by omega)
  have t1 := models_of hc (by omega)
  have t2 := law_models hc
  have sm : g__law_same 12 [.list ((modelsL cs (manyI cs).toNat).map encI), .list ((modelsL cs (manyI cs).toNat).map encI)] = .ok false (.bool true) [] := by
    have hmt : (manyI cs).toNat = m := by omega
    rw [hmt]
    have wc : (modelsL cs m).length ≤ 1024 := by
      refine Nat.le_trans (List.length_filter_le _ _) ?_
      rw [worlds_count]; exact Nat.le_trans (Nat.pow_le_pow_right (by decide) (show m ≤ 10 by omega)) (by decide)
    refine same 11 _ (Tr.mono (n := 2) (.lst (fun d hd => ?_) ?_) (by decide)) (by decide)
    · obtain ⟨c, hcm, rfl⟩ := List.mem_map.mp hd
      refine tr_encI 0 ?_
      rw [worlds_len m c (List.mem_filter.mp hcm).1]
      exact Nat.le_trans (show m ≤ 10 by omega) (by decide)
    · rw [List.length_map]; exact Nat.le_trans wc (by decide)
  obtain ⟨h2, e2, w2⟩ := are_judged (h := h1) (n := n + 160) (cs := cs) (w1.mono (by omega)) hc
  have b1 := p1 (s0 := s0) (s2 := .cl i) e1
  have b2 := p2 (s0 := s0) (s2 := .cl i) (d := h1.d) em eW
  have b3 := p3 (s0 := s0) (s2 := .cl i) (s4 := (if b then .ow (.list ((worldsL m).map encI)) else .cl (.list ((worldsL m).map encI)))) t1 t2 sm e2
  have h4 : (if b then Sl.ow (.list ((worldsL m).map encI)) else Sl.cl (.list ((worldsL m).map encI))) = .ow (.list ((worldsL m).map encI)) ∨ (if b then Sl.ow (.list ((worldsL m).map encI)) else Sl.cl (.list ((worldsL m).map encI))) = .cl (.list ((worldsL m).map encI)) := by cases b <;> simp
  generalize (if b then Sl.ow (.list ((worldsL m).map encI)) else Sl.cl (.list ((worldsL m).map encI))) = s4 at *
  obtain ⟨ws, h3, i4, hws, w3⟩ := p4i (h := h2) (n := n + 150) (m := m) (s0 := s0) (s2 := .cl i) (s3 := .cl (encC cs)) (w2.mono (by omega)) (by omega) h4
  have b4 := p4 (s0 := s0) (s2 := .cl i) (s4 := s4) (d := h3.d) hc hm hws
  obtain ⟨h5, b5, w5⟩ := p5 (h := h3) (n := n) (s0 := s0) (s2 := .cl i) (s4 := s4) w3 hc.many cg
  have r6 := rng1_of (j := 6) (by decide) (by decide)
  have i6 : iFn rng1 (aCons (mC (.int 6)) aNil) (lE s0 h3.d (.cl i) (.cl (encC cs)) s4 .un .un .un .un .un .un) = .ok (rngD 0 6) (lE s0 h3.d (.cl i) (.cl (encC cs)) s4 .un .un .un .un .un .un) := by
    generalize h3.d = hd
    generalize encC cs = cc
    rw [show (6 : Int).toNat = 6 from rfl] at r6
    generalize rngD 0 6 = r at *
    simp -implicitDefEqProofs [r6]
  have k4 : sKl [5] (sFor (iSeqM (mLc (iFn rng1 (aCons (mC (.int 3)) aNil)) (tName 6) tYesM m_law_5 [6])) (tName 5) m_law_8) (lE s0 h2.d (.cl i) (.cl (encC cs)) s4 .un .un .un .un .un .un) = .ok .nx (lE s0 h3.d (.cl i) (.cl (encC cs)) s4 .un .un .un .un .un .un) := by
    refine (kl_nx ((for_nx i4).trans b4)).trans ?_
    simp [isLe]
  have k5 : sKl [5, 6, 7, 8, 9, 10] (sFor (iFn rng1 (aCons (mC (.int 6)) aNil)) (tName 6) m_law_4) (lE s0 h3.d (.cl i) (.cl (encC cs)) s4 .un .un .un .un .un .un) = .ok .nx (lE s0 h5.d (.cl i) (.cl (encC cs)) s4 .un .un .un .un .un .un) := by
    refine (kl_nx ((for_nx i6).trans b5)).trans ?_
    simp [isLe]
  refine ⟨h5, w5, ?_⟩
  unfold m_law_9
  refine (kl_nx ((seq_nx b1).trans ((seq_nx b2).trans ((seq_nx b3).trans ((seq_nx k4).trans k5))))).trans ?_
  rcases h4 with rfl | rfl <;> simp [isLe]
theorem law {ns : List Int} (hz : ns.length ≤ 63) (hb : ∀ z ∈ ns, z.natAbs < 2 ^ 1048576) : Wk.g_law [.list (ns.map .int)] = .ok false (.bool true) [] := by
  have eh := law_handK hz
  have ok0 := handK_ok hz hb (n := 2800) (by decide)
  let P : Nat → Ev → Prop := fun i ρ => ∃ (h : Hnd), ρ = lE (.bo (.list (ns.map .int))) h.d .un .un .un .un .un .un .un .un .un ∧ h.Ok (2800 - 700 * i)
  obtain ⟨ρ', e, h', eρ, _⟩ := forI_inv (t := tName 2) (b := m_law_9) (P := P) (rngD 0 4) 0 (lE (.bo (.list (ns.map .int))) (handK ns).d .un .un .un .un .un .un .un .un .un) ⟨handK ns, rfl, ok0⟩ fun i dd ρ hd hp => by
    obtain ⟨h, eρ, w⟩ := hp
    rw [Nat.zero_add] at w ⊢
    subst eρ
    have hi : i < 4 := by
      have := (List.getElem?_eq_some_iff.mp hd).1
      rwa [rngD_len] at this
    obtain ⟨h', w', b⟩ := lap (h := h) (n := 2800 - 700 * (i + 1)) (w.mono (by omega)) (s0 := .bo (.list (ns.map .int))) (i := dd)
    exact ⟨lE (.bo (.list (ns.map .int))) h.d (.cl dd) .un .un .un .un .un .un .un .un, _, by simp, .inl b, h', rfl, w'⟩
  subst eρ
  have r4 := rng1_of (j := 4) (by decide) (by decide)
  rw [show (4 : Int).toNat = 4 from rfl] at r4
  have body : ∃ ρ2, Wk.m_law [.bo (.list (ns.map .int)), .un, .un, .un, .un, .un, .un, .un, .un, .un, .un, .un, .un, .un] = .ok (.rt (.val (.bool true))) ρ2 := by
    have sh : sSet 1 (mCall Wk.g__law_hand [.pl] (aCons (mV 0) aNil)) [.bo (.list (ns.map .int)), .un, .un, .un, .un, .un, .un, .un, .un, .un, .un, .un, .un, .un] = .ok .nx (lE (.bo (.list (ns.map .int))) (handK ns).d .un .un .un .un .un .un .un .un .un) := by
      generalize (handK ns).d = hd at eh
      generalize ns.map PyData.int = nn at *
      generalize Wk.g__law_hand = g at *
      simp -implicitDefEqProofs [eh]
    have ri : ∀ d, iFn rng1 (aCons (mC (.int 4)) aNil) (lE (.bo (.list (ns.map .int))) d .un .un .un .un .un .un .un .un .un) = .ok (rngD 0 4) (lE (.bo (.list (ns.map .int))) d .un .un .un .un .un .un .un .un .un) := fun d => by
      generalize rngD 0 4 = r at *
      simp -implicitDefEqProofs [r4]
    unfold Wk.m_law
    have k := kl_nx (is := [2, 3, 4, 5, 6, 7, 8, 9, 10]) ((for_nx (ri _)).trans e)
    rw [seq_nx sh, seq_nx fix1, seq_nx fix2, seq_nx k]
    exact ⟨_, rfl⟩
  obtain ⟨ρ2, body⟩ := body
  unfold Wk.g_law
  generalize Wk.m_law = M at body
  simp -implicitDefEqProofs [runD, body]
end Wk
set_option maxHeartbeats 0
namespace Wk
section
open PySem PySem.Spec PyProof.Rows L2
def d_is_integer : He.DefD := ⟨("is_integer", none), "is_integer", "is_integer", defArgs s_is_integer, defBody s_is_integer, defScope s_is_integer, [], []⟩
def d_is_within : He.DefD := ⟨("is_within", none), "is_within", "is_within", defArgs s_is_within, defBody s_is_within, defScope s_is_within, [], []⟩
def d_two_to : He.DefD := ⟨("two_to", none), "two_to", "two_to", defArgs s_two_to, defBody s_two_to, defScope s_two_to, [], []⟩
def d_bits_of : He.DefD := ⟨("bits_of", none), "bits_of", "bits_of", defArgs s_bits_of, defBody s_bits_of, defScope s_bits_of, [], []⟩
def d_is_world : He.DefD := ⟨("is_world", none), "is_world", "is_world", defArgs s_is_world, defBody s_is_world, defScope s_is_world, [], []⟩
def d_is_clause : He.DefD := ⟨("is_clause", none), "is_clause", "is_clause", defArgs s_is_clause, defBody s_is_clause, defScope s_is_clause, [], []⟩
def d_is_clauses : He.DefD := ⟨("is_clauses", none), "is_clauses", "is_clauses", defArgs s_is_clauses, defBody s_is_clauses, defScope s_is_clauses, [], []⟩
def d_check_clauses : He.DefD := ⟨("check_clauses", none), "check_clauses", "check_clauses", defArgs s_check_clauses, defBody s_check_clauses, defScope s_check_clauses, [], []⟩
def d_many_in : He.DefD := ⟨("many_in", none), "many_in", "many_in", defArgs s_many_in, defBody s_many_in, defScope s_many_in, [], []⟩
def d_holds_in : He.DefD := ⟨("holds_in", none), "holds_in", "holds_in", defArgs s_holds_in, defBody s_holds_in, defScope s_holds_in, [], []⟩
def d_first_broken : He.DefD := ⟨("first_broken", none), "first_broken", "first_broken", defArgs s_first_broken, defBody s_first_broken, defScope s_first_broken, [], []⟩
def d_broken : He.DefD := ⟨("broken", none), "broken", "broken", defArgs s_broken, defBody s_broken, defScope s_broken, [], []⟩
def d_models_of : He.DefD := ⟨("models_of", none), "models_of", "models_of", defArgs s_models_of, defBody s_models_of, defScope s_models_of, [], []⟩
def d_joined : He.DefD := ⟨("joined", none), "joined", "joined", defArgs s_joined, defBody s_joined, defScope s_joined, [], []⟩
def d_resolved : He.DefD := ⟨("resolved", none), "resolved", "resolved", defArgs s_resolved, defBody s_resolved, defScope s_resolved, [], []⟩
def d_resolvent : He.DefD := ⟨("resolvent", none), "resolvent", "resolvent", defArgs s_resolvent, defBody s_resolvent, defScope s_resolvent, [], []⟩
def d__law_hand : He.DefD := ⟨("_law_hand", none), "_law_hand", "_law_hand", defArgs s__law_hand, defBody s__law_hand, defScope s__law_hand, [], []⟩
def d__law_draw : He.DefD := ⟨("_law_draw", none), "_law_draw", "_law_draw", defArgs s__law_draw, defBody s__law_draw, defScope s__law_draw, [], []⟩
def d__law_any : He.DefD := ⟨("_law_any", none), "_law_any", "_law_any", defArgs s__law_any, defBody s__law_any, defScope s__law_any, [], []⟩
def d__law_mixed : He.DefD := ⟨("_law_mixed", none), "_law_mixed", "_law_mixed", defArgs s__law_mixed, defBody s__law_mixed, defScope s__law_mixed, [], []⟩
def d__law_same : He.DefD := ⟨("_law_same", none), "_law_same", "_law_same", defArgs s__law_same, defBody s__law_same, defScope s__law_same, [], []⟩
def d__law_is_integer : He.DefD := ⟨("_law_is_integer", none), "_law_is_integer", "_law_is_integer", defArgs s__law_is_integer, defBody s__law_is_integer, defScope s__law_is_integer, [], []⟩
def d__law_clause : He.DefD := ⟨("_law_clause", none), "_law_clause", "_law_clause", defArgs s__law_clause, defBody s__law_clause, defScope s__law_clause, [], []⟩
def d__law_clauses : He.DefD := ⟨("_law_clauses", none), "_law_clauses", "_law_clauses", defArgs s__law_clauses, defBody s__law_clauses, defScope s__law_clauses, [], []⟩
def d__law_many : He.DefD := ⟨("_law_many", none), "_law_many", "_law_many", defArgs s__law_many, defBody s__law_many, defScope s__law_many, [], []⟩
def d__law_atoms_of : He.DefD := ⟨("_law_atoms_of", none), "_law_atoms_of", "_law_atoms_of", defArgs s__law_atoms_of, defBody s__law_atoms_of, defScope s__law_atoms_of, [], []⟩
def d__law_worlds : He.DefD := ⟨("_law_worlds", none), "_law_worlds", "_law_worlds", defArgs s__law_worlds, defBody s__law_worlds, defScope s__law_worlds, [], []⟩
def d__law_breaks : He.DefD := ⟨("_law_breaks", none), "_law_breaks", "_law_breaks", defArgs s__law_breaks, defBody s__law_breaks, defScope s__law_breaks, [], []⟩
def d__law_models : He.DefD := ⟨("_law_models", none), "_law_models", "_law_models", defArgs s__law_models, defBody s__law_models, defScope s__law_models, [], []⟩
def d__law_joined : He.DefD := ⟨("_law_joined", none), "_law_joined", "_law_joined", defArgs s__law_joined, defBody s__law_joined, defScope s__law_joined, [], []⟩
def d__law_resolved : He.DefD := ⟨("_law_resolved", none), "_law_resolved", "_law_resolved", defArgs s__law_resolved, defBody s__law_resolved, defScope s__law_resolved, [], []⟩
def d__law_deep : He.DefD := ⟨("_law_deep", none), "_law_deep", "_law_deep", defArgs s__law_deep, defBody s__law_deep, defScope s__law_deep, [], []⟩
def d__law_is_clause : He.DefD := ⟨("_law_is_clause", none), "_law_is_clause", "_law_is_clause", defArgs s__law_is_clause, defBody s__law_is_clause, defScope s__law_is_clause, [], []⟩
def d__law_near : He.DefD := ⟨("_law_near", none), "_law_near", "_law_near", defArgs s__law_near, defBody s__law_near, defScope s__law_near, [], []⟩
def d__law_are_judged : He.DefD := ⟨("_law_are_judged", none), "_law_are_judged", "_law_are_judged", defArgs s__law_are_judged, defBody s__law_are_judged, defScope s__law_are_judged, [], []⟩
def d_law : He.DefD := ⟨("law", none), "law", "law", defArgs s_law, defBody s_law, defScope s_law, [], []⟩
def fnL : List He.DefD := ([d_is_integer, d_is_within, d_two_to, d_bits_of, d_is_world, d_is_clause, d_is_clauses, d_check_clauses, d_many_in, d_holds_in, d_first_broken, d_broken, d_models_of, d_joined, d_resolved, d_resolvent, d__law_hand, d__law_draw, d__law_any, d__law_mixed, d__law_same, d__law_is_integer, d__law_clause, d__law_clauses, d__law_many, d__law_atoms_of, d__law_worlds, d__law_breaks, d__law_models, d__law_joined] : List He.DefD) ++ ([d__law_resolved, d__law_deep, d__law_is_clause, d__law_near, d__law_are_judged, d_law] : List He.DefD)
def faL : List He.Fa := ([.glo "is_integer", .glo "is_within", .glo "two_to", .glo "bits_of", .glo "FollowError", .glo "NoWorld", .glo "NoClauses", .glo "NoAtom", .glo "TooMany", .glo "is_world", .int "MOST_ATOMS" 12, .int "MOST_CLAUSES" 80, .glo "is_clause", .glo "is_clauses", .glo "check_clauses", .glo "many_in", .glo "holds_in", .glo "first_broken", .glo "broken", .glo "models_of", .glo "joined", .glo "resolved", .glo "resolvent", .glo "_law_hand", .glo "_law_draw", .glo "_law_any", .glo "_law_mixed", .glo "_law_same", .glo "_law_is_integer", .glo "_law_clause"] : List He.Fa) ++ ([.glo "_law_clauses", .glo "_law_many", .glo "_law_atoms_of", .glo "_law_worlds", .glo "_law_breaks", .glo "_law_models", .glo "_law_joined", .glo "_law_resolved", .glo "_law_deep", .glo "_law_is_clause", .glo "_law_near", .glo "_law_are_judged", .glo "law", .free "ValueError", .free "abs", .free "all", .free "any", .free "bool", .free "enumerate", .free "int", .free "isinstance", .free "len", .free "list", .free "max", .free "range", .free "repr", .free "sorted", .free "super", .free "tuple", .free "zip"] : List He.Fa)
def looseL : List Str := (["is_integer", "is_within", "two_to", "bits_of", "FollowError", "NoWorld", "NoClauses", "NoAtom", "TooMany", "is_world", "MOST_ATOMS", "MOST_CLAUSES", "is_clause", "is_clauses", "check_clauses", "many_in", "holds_in", "first_broken", "broken", "models_of", "joined", "resolved", "resolvent", "_law_hand", "_law_draw", "_law_any", "_law_mixed", "_law_same", "_law_is_integer", "_law_clause"] : List Str) ++ (["_law_clauses", "_law_many", "_law_atoms_of", "_law_worlds", "_law_breaks", "_law_models", "_law_joined", "_law_resolved", "_law_deep", "_law_is_clause", "_law_near", "_law_are_judged"] : List Str)
abbrev R : PySem.W.OpenRow := PySem.W.OpenLaw.row PySem.Challenge.rw_followways_k08_whole_clauses_worlds_reso
def lamL : List (He.Defn × Str) := [(("joined", none), "joined.<locals>.<lambda>")]
def tfL : List He.Defn := lamL.map (·.1)
abbrev hk : PySem.W.Hook := He.hookX 3 faL fnL [] tfL fun _ => true
def ob (s : PySem.W.SharedT) : He.AlX := He.obsX 3 faL fnL [] tfL (fun _ => true) (HandSHeadRun.getT s)
theorem ob_eq (s : PySem.W.SharedT) : ob s = hk.obs s.abs := He.obsX_eq (HandSHeadRun.getT_eq s)
theorem run (w : World) : HandSHeadRun.RunEq R (PySem.W.view R.prog [47]) hk ob 3000 looseL w := by
  intro os
  kernel_rfl
end
end Wk
set_option maxHeartbeats 0
namespace Wk
open PySem PySem.Spec L2 Vx Lb
def fnN : Nat → Str
  | 0 => "is_integer"
  | 1 => "is_within"
  | 2 => "two_to"
  | 3 => "bits_of"
  | 4 => "is_world"
  | 5 => "is_clause"
  | 6 => "is_clauses"
  | 7 => "check_clauses"
  | 8 => "many_in"
  | 9 => "holds_in"
  | 10 => "first_broken"
  | 11 => "broken"
  | 12 => "models_of"
  | 13 => "joined"
  | 14 => "resolved"
  | 15 => "resolvent"
  | 16 => "_law_hand"
  | 17 => "_law_draw"
  | 18 => "_law_any"
  | 19 => "_law_mixed"
  | 20 => "_law_same"
  | 21 => "_law_is_integer"
  | 22 => "_law_clause"
  | 23 => "_law_clauses"
  | 24 => "_law_many"
  | 25 => "_law_atoms_of"
  | 26 => "_law_worlds"
  | 27 => "_law_breaks"
  | 28 => "_law_models"
  | 29 => "_law_joined"
  | 30 => "_law_resolved"
  | 31 => "_law_deep"
  | 32 => "_law_is_clause"
  | 33 => "_law_near"
  | 34 => "_law_are_judged"
  | 35 => "law"
  | _ => ""
abbrev fa (K : PySem.W.Frag) (i : Nat) : Addr := He.ga K (fnN i)
abbrev csL (K : PySem.W.Frag) : List (Addr × Addr) := tfL.map (He.cT K)
abbrev tbL (K : PySem.W.Frag) : List (Addr × Str) := lamL.map fun d => ((He.cT K d.1).2, d.2)
theorem facts {w : World} {h : Heap} {K : PySem.W.Frag} {mg : Str → Option Value} (X : K.In h) (G : h.Ns mainGlobals mg) (c : He.SaysX faL fnL [] tfL (fun _ => true) w h K) : ∃ fdd : Nat → FuncData, FunD K "law" "law" (defArgs s_law) (defBody s_law) (defScope s_law) [] [] (fa K 35) (fdd 35) ∧ ∀ base : Heap, (∀ p ∈ csL K, LamX.TabB base mg p.1 p.2) → Hs K mg base (fa K) fdd (tbL K) := by
  obtain ⟨fd0, F0⟩ := c.t.d.def_ 0 (d := d_is_integer) rfl
  obtain ⟨fd1, F1⟩ := c.t.d.def_ 1 (d := d_is_within) rfl
  obtain ⟨fd2, F2⟩ := c.t.d.def_ 2 (d := d_two_to) rfl
  obtain ⟨fd3, F3⟩ := c.t.d.def_ 3 (d := d_bits_of) rfl
  obtain ⟨fd4, F4⟩ := c.t.d.def_ 4 (d := d_is_world) rfl
  obtain ⟨fd5, F5⟩ := c.t.d.def_ 5 (d := d_is_clause) rfl
  obtain ⟨fd6, F6⟩ := c.t.d.def_ 6 (d := d_is_clauses) rfl
  obtain ⟨fd7, F7⟩ := c.t.d.def_ 7 (d := d_check_clauses) rfl
  obtain ⟨fd8, F8⟩ := c.t.d.def_ 8 (d := d_many_in) rfl
  obtain ⟨fd9, F9⟩ := c.t.d.def_ 9 (d := d_holds_in) rfl
  obtain ⟨fd10, F10⟩ := c.t.d.def_ 10 (d := d_first_broken) rfl
  obtain ⟨fd11, F11⟩ := c.t.d.def_ 11 (d := d_broken) rfl
  obtain ⟨fd12, F12⟩ := c.t.d.def_ 12 (d := d_models_of) rfl
  obtain ⟨fd13, F13⟩ := c.t.d.def_ 13 (d := d_joined) rfl
  obtain ⟨fd14, F14⟩ := c.t.d.def_ 14 (d := d_resolved) rfl
  obtain ⟨fd15, F15⟩ := c.t.d.def_ 15 (d := d_resolvent) rfl
  obtain ⟨fd16, F16⟩ := c.t.d.def_ 16 (d := d__law_hand) rfl
  obtain ⟨fd17, F17⟩ := c.t.d.def_ 17 (d := d__law_draw) rfl
  obtain ⟨fd18, F18⟩ := c.t.d.def_ 18 (d := d__law_any) rfl
  obtain ⟨fd19, F19⟩ := c.t.d.def_ 19 (d := d__law_mixed) rfl
  obtain ⟨fd20, F20⟩ := c.t.d.def_ 20 (d := d__law_same) rfl
  obtain ⟨fd21, F21⟩ := c.t.d.def_ 21 (d := d__law_is_integer) rfl
  obtain ⟨fd22, F22⟩ := c.t.d.def_ 22 (d := d__law_clause) rfl
  obtain ⟨fd23, F23⟩ := c.t.d.def_ 23 (d := d__law_clauses) rfl
  obtain ⟨fd24, F24⟩ := c.t.d.def_ 24 (d := d__law_many) rfl
  obtain ⟨fd25, F25⟩ := c.t.d.def_ 25 (d := d__law_atoms_of) rfl
  obtain ⟨fd26, F26⟩ := c.t.d.def_ 26 (d := d__law_worlds) rfl
  obtain ⟨fd27, F27⟩ := c.t.d.def_ 27 (d := d__law_breaks) rfl
  obtain ⟨fd28, F28⟩ := c.t.d.def_ 28 (d := d__law_models) rfl
  obtain ⟨fd29, F29⟩ := c.t.d.def_ 29 (d := d__law_joined) rfl
  obtain ⟨fd30, F30⟩ := c.t.d.def_ 30 (d := d__law_resolved) rfl
  obtain ⟨fd31, F31⟩ := c.t.d.def_ 31 (d := d__law_deep) rfl
  obtain ⟨fd32, F32⟩ := c.t.d.def_ 32 (d := d__law_is_clause) rfl
  obtain ⟨fd33, F33⟩ := c.t.d.def_ 33 (d := d__law_near) rfl
  obtain ⟨fd34, F34⟩ := c.t.d.def_ 34 (d := d__law_are_judged) rfl
  obtain ⟨fd35, F35⟩ := c.t.d.def_ 35 (d := d_law) rfl
  refine ⟨fun i => match i with
    | 0 => fd0
    | 1 => fd1
    | 2 => fd2
    | 3 => fd3
    | 4 => fd4
    | 5 => fd5
    | 6 => fd6
    | 7 => fd7
    | 8 => fd8
    | 9 => fd9
    | 10 => fd10
    | 11 => fd11
    | 12 => fd12
    | 13 => fd13
    | 14 => fd14
    | 15 => fd15
    | 16 => fd16
    | 17 => fd17
    | 18 => fd18
    | 19 => fd19
    | 20 => fd20
    | 21 => fd21
    | 22 => fd22
    | 23 => fd23
    | 24 => fd24
    | 25 => fd25
    | 26 => fd26
    | 27 => fd27
    | 28 => fd28
    | 29 => fd29
    | 30 => fd30
    | 31 => fd31
    | 32 => fd32
    | 33 => fd33
    | 34 => fd34
    | 35 => fd35
    | _ => fd0, F35, fun base TB => ?_⟩
  exact {
    F0 := F0
    G0 := He.glo_ok X G (c.t.d.fact 0 (f := .glo "is_integer") rfl)
    F1 := F1
    G1 := He.glo_ok X G (c.t.d.fact 1 (f := .glo "is_within") rfl)
    F2 := F2
    G2 := He.glo_ok X G (c.t.d.fact 2 (f := .glo "two_to") rfl)
    F3 := F3
    G3 := He.glo_ok X G (c.t.d.fact 3 (f := .glo "bits_of") rfl)
    F4 := F4
    G4 := He.glo_ok X G (c.t.d.fact 9 (f := .glo "is_world") rfl)
    F5 := F5
    G5 := He.glo_ok X G (c.t.d.fact 12 (f := .glo "is_clause") rfl)
    F6 := F6
    G6 := He.glo_ok X G (c.t.d.fact 13 (f := .glo "is_clauses") rfl)
    F7 := F7
    G7 := He.glo_ok X G (c.t.d.fact 14 (f := .glo "check_clauses") rfl)
    F8 := F8
    G8 := He.glo_ok X G (c.t.d.fact 15 (f := .glo "many_in") rfl)
    F9 := F9
    G9 := He.glo_ok X G (c.t.d.fact 16 (f := .glo "holds_in") rfl)
    F10 := F10
    G10 := He.glo_ok X G (c.t.d.fact 17 (f := .glo "first_broken") rfl)
    F11 := F11
    G11 := He.glo_ok X G (c.t.d.fact 18 (f := .glo "broken") rfl)
    F12 := F12
    G12 := He.glo_ok X G (c.t.d.fact 19 (f := .glo "models_of") rfl)
    F13 := F13
    G13 := He.glo_ok X G (c.t.d.fact 20 (f := .glo "joined") rfl)
    T13 := ⟨_, _, code_of F13 (p := ("joined", none)) rfl, TB (He.cT K ("joined", none)) (by simp [csL, tfL, lamL]), by simp [tbL, lamL], by simp [tbL, lamL]⟩
    F14 := F14
    G14 := He.glo_ok X G (c.t.d.fact 21 (f := .glo "resolved") rfl)
    F15 := F15
    G15 := He.glo_ok X G (c.t.d.fact 22 (f := .glo "resolvent") rfl)
    F16 := F16
    G16 := He.glo_ok X G (c.t.d.fact 23 (f := .glo "_law_hand") rfl)
    F17 := F17
    G17 := He.glo_ok X G (c.t.d.fact 24 (f := .glo "_law_draw") rfl)
    F18 := F18
    G18 := He.glo_ok X G (c.t.d.fact 25 (f := .glo "_law_any") rfl)
    F19 := F19
    G19 := He.glo_ok X G (c.t.d.fact 26 (f := .glo "_law_mixed") rfl)
    F20 := F20
    G20 := He.glo_ok X G (c.t.d.fact 27 (f := .glo "_law_same") rfl)
    F21 := F21
    G21 := He.glo_ok X G (c.t.d.fact 28 (f := .glo "_law_is_integer") rfl)
    F22 := F22
    G22 := He.glo_ok X G (c.t.d.fact 29 (f := .glo "_law_clause") rfl)
    F23 := F23
    G23 := He.glo_ok X G (c.t.d.fact 30 (f := .glo "_law_clauses") rfl)
    F24 := F24
    G24 := He.glo_ok X G (c.t.d.fact 31 (f := .glo "_law_many") rfl)
    F25 := F25
    G25 := He.glo_ok X G (c.t.d.fact 32 (f := .glo "_law_atoms_of") rfl)
    F26 := F26
    G26 := He.glo_ok X G (c.t.d.fact 33 (f := .glo "_law_worlds") rfl)
    F27 := F27
    G27 := He.glo_ok X G (c.t.d.fact 34 (f := .glo "_law_breaks") rfl)
    F28 := F28
    G28 := He.glo_ok X G (c.t.d.fact 35 (f := .glo "_law_models") rfl)
    F29 := F29
    G29 := He.glo_ok X G (c.t.d.fact 36 (f := .glo "_law_joined") rfl)
    F30 := F30
    G30 := He.glo_ok X G (c.t.d.fact 37 (f := .glo "_law_resolved") rfl)
    F31 := F31
    G31 := He.glo_ok X G (c.t.d.fact 38 (f := .glo "_law_deep") rfl)
    F32 := F32
    G32 := He.glo_ok X G (c.t.d.fact 39 (f := .glo "_law_is_clause") rfl)
    F33 := F33
    G33 := He.glo_ok X G (c.t.d.fact 40 (f := .glo "_law_near") rfl)
    F34 := F34
    G34 := He.glo_ok X G (c.t.d.fact 41 (f := .glo "_law_are_judged") rfl)
    F35 := F35
    G35 := He.glo_ok X G (c.t.d.fact 42 (f := .glo "law") rfl)
    I_MOST_ATOMS := He.int_ok X G (c.t.d.fact 10 (f := .int "MOST_ATOMS" 12) rfl)
    I_MOST_CLAUSES := He.int_ok X G (c.t.d.fact 11 (f := .int "MOST_CLAUSES" 80) rfl)
    B_ValueError := He.free_ok X G (c.t.d.fact 43 (f := .free "ValueError") rfl)
    B_abs := He.free_ok X G (c.t.d.fact 44 (f := .free "abs") rfl)
    B_all := He.free_ok X G (c.t.d.fact 45 (f := .free "all") rfl)
    B_any := He.free_ok X G (c.t.d.fact 46 (f := .free "any") rfl)
    B_bool := He.free_ok X G (c.t.d.fact 47 (f := .free "bool") rfl)
    B_enumerate := He.free_ok X G (c.t.d.fact 48 (f := .free "enumerate") rfl)
    B_int := He.free_ok X G (c.t.d.fact 49 (f := .free "int") rfl)
    B_isinstance := He.free_ok X G (c.t.d.fact 50 (f := .free "isinstance") rfl)
    B_len := He.free_ok X G (c.t.d.fact 51 (f := .free "len") rfl)
    B_list := He.free_ok X G (c.t.d.fact 52 (f := .free "list") rfl)
    B_max := He.free_ok X G (c.t.d.fact 53 (f := .free "max") rfl)
    B_range := He.free_ok X G (c.t.d.fact 54 (f := .free "range") rfl)
    B_repr := He.free_ok X G (c.t.d.fact 55 (f := .free "repr") rfl)
    B_sorted := He.free_ok X G (c.t.d.fact 56 (f := .free "sorted") rfl)
    B_super := He.free_ok X G (c.t.d.fact 57 (f := .free "super") rfl)
    B_tuple := He.free_ok X G (c.t.d.fact 58 (f := .free "tuple") rfl)
    B_zip := He.free_ok X G (c.t.d.fact 59 (f := .free "zip") rfl)
  }
theorem done (hl : ∀ ns : List Int, ns.length ≤ 63 → (∀ z ∈ ns, Builtin.Int.intBits z ≤ 1048576) → g_law [.list (ns.map .int)] = .ok false (.bool true) []) : PySem.Challenge.rw_followways_k08_whole_clauses_worlds_reso.Holds := by
  w_on; o_law
  refine HandSHeadRun.head_any (r := PySem.W.OpenLaw.row PySem.Challenge.rw_followways_k08_whole_clauses_worlds_reso) (q := PySem.W.view (PySem.W.OpenLaw.row PySem.Challenge.rw_followways_k08_whole_clauses_worlds_reso).prog [47]) (H := hk) (ob := ob) (M := 3000) (loose := looseL) (d := HandSHeadRun.topDef (PySem.W.OpenLaw.row PySem.Challenge.rw_followways_k08_whole_clauses_worlds_reso).prog 47) (kwd := []) ob_eq
    (by kernel_rfl) (fun s => by kernel_rfl) run (by kernel_rfl) (by kernel_rfl) (by kernel_rfl) (by rfl) (by first | assumption | decide +kernel) (by decide +kernel) ⟨rfl, rfl, rfl, rfl, rfl, by decide +kernel⟩ ?hw ?hc
  case hw => w_witness2
  case hc =>
    refine walk_G (l := PySem.Challenge.rw_followways_k08_whole_clauses_worlds_reso) (n := 63) (k := 15) (x := "script") rfl (by decide) (by kernel_rfl) ⟨⟨rfl, by decide, by decide⟩, rfl⟩ ?F
    intro w mg fl h Y G hmg0
    obtain ⟨K, KX, c⟩ := Y
    have hmg : mg ("law" : PySem.Str) = some (.ref fl) := by
      have e : (HandSHeadRun.topDef (PySem.W.OpenLaw.row PySem.Challenge.rw_followways_k08_whole_clauses_worlds_reso).prog 47).name = ("law" : PySem.Str) := by kernel_rfl
      rw [← e]
      exact hmg0
    obtain ⟨fdd, Fl, hs⟩ := facts KX G c
    have el : fl = fa K 35 := by
      have := hmg.symm.trans (He.glo_ok KX G (c.t.d.fact 42 (f := .glo "law") rfl))
      cases this; rfl
    subst el
    refine ⟨K, fdd 35, csL K, spV K (fun _ => 0) (tbL K) [.pl] g_law, KX, ?_, ?_, ?_, ?_, ?_, fun base KB GB TB => ok_law (hs base TB)⟩
    · intro p hp; obtain ⟨d, hd, e⟩ := List.mem_map.mp hp; subst e; exact c.empty d hd
    · intro p hp; obtain ⟨d, hd, e⟩ := List.mem_map.mp hp; subst e; exact c.out d hd
    · intro p hp; obtain ⟨d, hd, e⟩ := List.mem_map.mp hp; subst e; exact PySem.W.codeHd_of_K KX (c.hd d hd)
    · exact fun s v => (FunD.bindsA (ps := ["script"]) Fl fun _ _ _ _ _ _ us hl => match us, hl with | [_], _ => rfl) s [v] rfl
    · intro H a ns hn hb hT hS
      exact law_sp (fun p hp => by obtain ⟨d, hd, e⟩ := List.mem_map.mp hp; subst e; exact hT _ (List.mem_map.mpr ⟨d.1, List.mem_map.mpr ⟨d, hd, rfl⟩, rfl⟩)) hS (hl ns hn hb)
end Wk
set_option maxHeartbeats 0
theorem PySem.Challenge.cw_followways_k08_whole_clauses_worlds_reso_holds : PySem.Challenge.rw_followways_k08_whole_clauses_worlds_reso.Holds := by
  exact Wk.done fun ns hz hb => Wk.law hz fun z hz => PySem.intBits_le_iff.mp (hb z hz)
