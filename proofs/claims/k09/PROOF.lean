import PyProof.Rows.All
import Wide.All
import OpenK.AllK
import Wide.FinOn
import KE.KStateDown
import HandS.ForMost
import HandS.Exc
import HandS.TryOnly
import HandS.ExcOwn
import HandS.WordsExc
import HandS.Defaults
import HandS.TupAny
import HandS.Deep
import HandS.Zip
import HandS.IsInst
import HandS.DictComp
import HandS.Lambda
import KE.GoesNew
import KE.GoesMore
import HandS.Wide
import HandS.SortInts
import HandS.Conv
import HandS.Style
import HandS.TupLe
import HandS.WideBits
import KE.SortKeyHeap
import KE.KDictSum
import HandS.HeadHook4
import HandS.HeadWalk
import HandS.Head0
import HandS.Head1
import HandS.Head2
import HandS.Head3
import HandS.Head4
import HandS.NestedK
import KE.KNestM
import KE.IntBitsLaws
import PySem.Challenge.RW_followways_k09_whole_thinned_left_turned
set_option Elab.async false
set_option linter.all false
set_option maxRecDepth 100000
set_option maxHeartbeats 2000000
namespace Vx
open PySem PySem.Spec PyProof.Rows L2
abbrev D := PyData
abbrev Fo := Addr → Prop
def KTup (K : PySem.W.Frag) (a : Addr) (xs : List V) : Prop := ∃ (o : Obj) (its : Array Value) (n : Nat), K.lookup a = some o ∧ o.cls = .type "tuple" ∧ o.data = .seq its n ∧ its.size ≤ sizeLine ∧ Vals xs its.toList
def KLst (K : PySem.W.Frag) (a : Addr) (xs : List V) : Prop := ∃ (o : Obj) (its : Array Value) (n : Nat), K.lookup a = some o ∧ o.cls = .type "list" ∧ o.dict = none ∧ o.data = .seq its n ∧ its.size ≤ sizeLine ∧ Vals xs its.toList
def kD : Key → D
  | .inl i => .int i
  | .inr x => .str x
mutual
inductive RD (K : PySem.W.Frag) (A : Fo) (H : Hp) : V → D → Prop
  | non : RD K A H .non .none
  | bl (b : Bool) : RD K A H (.bl b) (.bool b)
  | int (i : Int) : RD K A H (.int i) (.int i)
  | str (x : Str) : RD K A H (.str x) (.str x)
  | tupH {a : Addr} {xs : List V} {ds : List D} : Rd H a (.tup xs) → ¬ A a → RDs K A H xs ds → RD K A H (.ref a) (.tuple ds)
  | tupK {a : Addr} {xs : List V} {ds : List D} : KTup K a xs → RDs K A H xs ds → RD K A H (.ref a) (.tuple ds)
  | lstH {a : Addr} {xs : List V} {ds : List D} : Rd H a (.lst xs) → ¬ A a → RDs K A H xs ds → RD K A H (.ref a) (.list ds)
  | lstK {a : Addr} {xs : List V} {ds : List D} : KLst K a xs → RDs K A H xs ds → RD K A H (.ref a) (.list ds)
  | dct {a : Addr} {kvs : List (Key × V)} {kds : List (D × D)} : H a = some (.dK kvs) → ¬ A a → RKs K A H kvs kds → RD K A H (.ref a) (.dict kds)
inductive RDs (K : PySem.W.Frag) (A : Fo) (H : Hp) : List V → List D → Prop
  | nil : RDs K A H [] []
  | cons {v : V} {vs : List V} {d : D} {ds : List D} : RD K A H v d → RDs K A H vs ds → RDs K A H (v :: vs) (d :: ds)
inductive RKs (K : PySem.W.Frag) (A : Fo) (H : Hp) : List (Key × V) → List (D × D) → Prop
  | nil : RKs K A H [] []
  | cons {k : Key} {v : V} {vs : List (Key × V)} {d : D} {ds : List (D × D)} : RD K A H v d → RKs K A H vs ds → RKs K A H ((k, v) :: vs) ((kD k, d) :: ds)
end
/-- not a table of code objects (these alone change without being ours) -/
def nTb : HO → Bool
  | .tbl _ => false
  | _ => true
/-- from (A, H) to (A', H'): what was not forbidden stands, what is newly forbidden was not there -/
structure Le (A : Fo) (H : Hp) (A' : Fo) (H' : Hp) : Prop where
  kept : ∀ b o, H b = some o → nTb o = true → ¬ A b → H' b = some o
  new : ∀ b, A' b → A b ∨ H b = none
  dom : ∀ b, H b ≠ none → H' b ≠ none
theorem Le.rd {A A' : Fo} {H H' : Hp} (l : Le A H A' H') {a : Addr} {u : HO} (r : Rd H a u) (n : ¬ A a) (hu : nTb u = true := by rfl) : Rd H' a u ∧ ¬ A' a := by
  refine ⟨?_, fun z => ?_⟩
  · rcases r with r | ⟨o, r⟩
    · exact .inl (l.kept _ _ r hu n)
    · exact .inr ⟨o, l.kept _ _ r rfl n⟩
  · rcases l.new _ z with z | z
    · exact n z
    · rcases r with r | ⟨o, r⟩ <;> (rw [r] at z; cases z)
theorem Le.rdd {A A' : Fo} {H H' : Hp} (l : Le A H A' H') {a : Addr} {u : HO} (r : H a = some u) (n : ¬ A a) (hu : nTb u = true := by rfl) : H' a = some u ∧ ¬ A' a := by
  refine ⟨l.kept _ _ r hu n, fun z => ?_⟩
  rcases l.new _ z with z | z
  · exact n z
  · rw [r] at z; cases z
section
variable {K : PySem.W.Frag} {A A' : Fo} {H H' : Hp}
mutual
theorem RD.mono (l : Le A H A' H') : ∀ (d : D) (v : V), RD K A H v d → RD K A' H' v d
  | .none, _, h => by cases h; exact .non
  | .bool b, _, h => by cases h; exact .bl b
  | .int i, _, h => by cases h; exact .int i
  | .str x, _, h => by cases h; exact .str x
  | .tuple ds, _, h => by
    cases h with
    | tupH r n q => exact .tupH (l.rd r n).1 (l.rd r n).2 (RDs.mono l ds _ q)
    | tupK r q => exact .tupK r (RDs.mono l ds _ q)
  | .list ds, _, h => by
    cases h with
    | lstH r n q => exact .lstH (l.rd r n).1 (l.rd r n).2 (RDs.mono l ds _ q)
    | lstK r q => exact .lstK r (RDs.mono l ds _ q)
  | .dict ks, _, h => by
    cases h with
    | dct r n q => exact .dct (l.rdd r n).1 (l.rdd r n).2 (RKs.mono l ks _ q)
theorem RDs.mono (l : Le A H A' H') : ∀ (ds : List D) (vs : List V), RDs K A H vs ds → RDs K A' H' vs ds
  | [], _, h => by cases h; exact .nil
  | d :: ds, _, h => by
    cases h with
    | cons h1 h2 => exact .cons (RD.mono l d _ h1) (RDs.mono l ds _ h2)
theorem RKs.mono (l : Le A H A' H') : ∀ (ds : List (D × D)) (vs : List (Key × V)), RKs K A H vs ds → RKs K A' H' vs ds
  | [], _, h => by cases h; exact .nil
  | (_, d) :: ds, _, h => by
    cases h with
    | cons h1 h2 => exact .cons (RD.mono l d _ h1) (RKs.mono l ds _ h2)
end
end
theorem Le.refl (A : Fo) (H : Hp) : Le A H A H := ⟨fun _ _ h _ _ => h, fun _ h => .inl h, fun _ h => h⟩
theorem Le.less {A A' : Fo} {H : Hp} (h : ∀ b, A' b → A b) : Le A H A' H := ⟨fun _ _ h _ _ => h, fun _ z => .inl (h _ z), fun _ h => h⟩
theorem Le.trans {A A1 A2 : Fo} {H H1 H2 : Hp} (a : Le A H A1 H1) (b : Le A1 H1 A2 H2) : Le A H A2 H2 := by
  refine ⟨fun c o h t n => b.kept c o (a.kept c o h t n) t (a.rdd h n t).2, fun c z => ?_, fun c h => b.dom c (a.dom c h)⟩
  rcases b.new c z with z | z
  · exact a.new c z
  · cases q : H c with
    | none => exact .inr rfl
    | some o => exact absurd z (a.dom c (by rw [q]; exact fun z => nomatch z))
/-- the heap grows -/
theorem Le.same {A : Fo} {H H' : Hp} (h : ∀ b o, H b = some o → H' b = some o) : Le A H A H' := ⟨fun b o q _ _ => h b o q, fun _ z => .inl z, fun b q z => q (by
    cases c : H b with
    | none => rfl
    | some o => rw [h b o c] at z; cases z)⟩
section
variable {K : PySem.W.Frag} {A A' : Fo} {H H' : Hp}
theorem RDs.length : ∀ {vs : List V} {ds : List D}, RDs K A H vs ds → vs.length = ds.length
  | _, _, .nil => rfl
  | _, _, .cons _ t => by simp [RDs.length t]
theorem RDs.get : ∀ {vs : List V} {ds : List D} {i : Nat} {d : D}, RDs K A H vs ds → ds[i]? = some d → ∃ v, vs[i]? = some v ∧ RD K A H v d
  | _, _, i, d, .nil, h => by simp at h
  | _, _, 0, d, .cons r _, h => by simp at h; subst h; exact ⟨_, rfl, r⟩
  | _, _, i + 1, d, .cons _ t, h => by
    obtain ⟨v, h1, h2⟩ := RDs.get (i := i) (d := d) t (by simpa using h)
    exact ⟨v, by simpa using h1, h2⟩
theorem RDs.append : ∀ {vs ws : List V} {ds es : List D}, RDs K A H vs ds → RDs K A H ws es → RDs K A H (vs ++ ws) (ds ++ es)
  | _, _, _, _, .nil, s => s
  | _, _, _, _, .cons r t, s => .cons r (RDs.append t s)
theorem RDs.take : ∀ {vs : List V} {ds : List D} (n : Nat), RDs K A H vs ds → RDs K A H (vs.take n) (ds.take n)
  | _, _, 0, _ => by simp; exact .nil
  | _, _, _ + 1, .nil => by simp; exact .nil
  | _, _, n + 1, .cons r t => by simp; exact .cons r (RDs.take n t)
theorem RDs.drop : ∀ {vs : List V} {ds : List D} (n : Nat), RDs K A H vs ds → RDs K A H (vs.drop n) (ds.drop n)
  | _, _, 0, h => by simpa using h
  | _, _, _ + 1, .nil => by simp; exact .nil
  | _, _, n + 1, .cons _ t => by simp; exact RDs.drop n t
theorem RDs.set {v : V} {d : D} (r : RD K A H v d) : ∀ {vs : List V} {ds : List D} (i : Nat), RDs K A H vs ds → RDs K A H (vs.set i v) (ds.set i d)
  | _, _, _, .nil => by simp; exact .nil
  | _, _, 0, .cons _ t => by simp; exact .cons r t
  | _, _, i + 1, .cons q t => by simp; exact .cons q (RDs.set r i t)
theorem RDs.eraseIdx : ∀ {vs : List V} {ds : List D} (i : Nat), RDs K A H vs ds → RDs K A H (vs.eraseIdx i) (ds.eraseIdx i)
  | _, _, _, .nil => by simp; exact .nil
  | _, _, 0, .cons _ t => by simpa using t
  | _, _, i + 1, .cons q t => by simp; exact .cons q (RDs.eraseIdx i t)
theorem RDs.reverse : ∀ {vs : List V} {ds : List D}, RDs K A H vs ds → RDs K A H vs.reverse ds.reverse
  | _, _, .nil => by simp; exact .nil
  | _, _, .cons r t => by simp; exact (RDs.reverse t).append (.cons r .nil)
theorem RDs.dropLast {vs : List V} {ds : List D} (h : RDs K A H vs ds) : RDs K A H vs.dropLast ds.dropLast := by
  rw [List.dropLast_eq_take, List.dropLast_eq_take, h.length]
  exact h.take _
theorem RDs.rep : ∀ (n : Nat) {vs : List V} {ds : List D}, RDs K A H vs ds → RDs K A H (List.replicate n vs).flatten (List.replicate n ds).flatten
  | 0, _, _, _ => by simp; exact .nil
  | n + 1, _, _, h => by
    rw [List.replicate_succ, List.replicate_succ, List.flatten_cons, List.flatten_cons]
    exact h.append (RDs.rep n h)
theorem RDs.ints : ∀ (ns : List Int), RDs K A H (ns.map V.int) (ns.map PyData.int)
  | [] => .nil
  | n :: r => .cons (.int n) (RDs.ints r)
theorem RDs.of_ints : ∀ {vs : List V} {ns : List Int}, RDs K A H vs (ns.map PyData.int) → vs = ns.map V.int
  | _, [], h => by cases h; rfl
  | _, n :: r, h => by
    cases h with
    | cons h1 h2 => cases h1; rw [RDs.of_ints h2]; rfl
theorem RDs.of_bools : ∀ {vs : List V} {ns : List Bool}, RDs K A H vs (ns.map PyData.bool) → vs = ns.map V.bl
  | _, [], h => by cases h; rfl
  | _, n :: r, h => by
    cases h with
    | cons h1 h2 => cases h1; rw [RDs.of_bools h2]; rfl
theorem RDs.of_strs : ∀ {vs : List V} {ns : List Str}, RDs K A H vs (ns.map PyData.str) → vs = ns.map V.str
  | _, [], h => by cases h; rfl
  | _, n :: r, h => by
    cases h with
    | cons h1 h2 => cases h1; rw [RDs.of_strs h2]; rfl
end
def OB (K : PySem.W.Frag) (A : Fo) (H : Hp) (a : Addr) : D → Prop
  | .list ds => ∃ xs, H a = some (.lst xs) ∧ RDs K A H xs ds
  | .dict ks => ∃ kvs, H a = some (.dK kvs) ∧ RKs K A H kvs ks
  | _ => False
theorem OB.at {K : PySem.W.Frag} {A : Fo} {H : Hp} {a : Addr} {d : D} (h : OB K A H a d) : ∃ o, H a = some o := by
  cases d <;> first | exact h.elim | (obtain ⟨xs, h, _⟩ := h; exact ⟨_, h⟩)
theorem OB.rd {K : PySem.W.Frag} {A : Fo} {H : Hp} {a : Addr} {d : D} (h : OB K A H a d) (n : ¬ A a) : RD K A H (.ref a) d := by
  cases d <;> first
    | exact h.elim
    | (obtain ⟨xs, h, q⟩ := h; exact .lstH (.inl h) n q)
    | (obtain ⟨xs, h, q⟩ := h; exact .dct h n q)
theorem OB.mono {K : PySem.W.Frag} {A A' : Fo} {H H' : Hp} {a : Addr} {d : D} (h : OB K A H a d) (l : Le A H A' H') (e : ∀ o, H a = some o → H' a = some o) : OB K A' H' a d := by
  cases d <;> first
    | exact h.elim
    | (obtain ⟨xs, h, q⟩ := h; exact ⟨xs, e _ h, RDs.mono l _ _ q⟩)
    | (obtain ⟨xs, h, q⟩ := h; exact ⟨xs, e _ h, RKs.mono l _ _ q⟩)
theorem OB.mono' {K : PySem.W.Frag} {A A' : Fo} {H H' : Hp} {a : Addr} {d : D} (h : OB K A H a d) (l : Le A H A' H') (e : ∀ o, H a = some o → nTb o = true → H' a = some o) : OB K A' H' a d := by
  cases d <;> first
    | exact h.elim
    | (obtain ⟨xs, h, q⟩ := h; exact ⟨xs, e _ h rfl, RDs.mono l _ _ q⟩)
    | (obtain ⟨xs, h, q⟩ := h; exact ⟨xs, e _ h rfl, RKs.mono l _ _ q⟩)
/-- what may be read now: data, or a list (dict) whose items are data -/
inductive RB (K : PySem.W.Frag) (A : Fo) (H : Hp) (v : V) (d : D) : Prop
  | rd : RD K A H v d → RB K A H v d
  | ob {a : Addr} : v = .ref a → OB K A H a d → RB K A H v d
  | ls {a : Addr} {xs : List V} {ds : List D} : v = .ref a → d = .list ds → SqL K H a xs → RDs K A H xs ds → RB K A H v d
section
variable {K : PySem.W.Frag} {A : Fo} {H : Hp} {v : V}
theorem RB.int {i : Int} (h : RB K A H v (.int i)) : v = .int i := by
  cases h with
  | rd h => cases h; rfl
  | ob e h => exact h.elim
  | ls e e2 => cases e2
theorem RB.bl {i : Bool} (h : RB K A H v (.bool i)) : v = .bl i := by
  cases h with
  | rd h => cases h; rfl
  | ob e h => exact h.elim
  | ls e e2 => cases e2
theorem RB.str {i : Str} (h : RB K A H v (.str i)) : v = .str i := by
  cases h with
  | rd h => cases h; rfl
  | ob e h => exact h.elim
  | ls e e2 => cases e2
theorem RB.non (h : RB K A H v .none) : v = .non := by
  cases h with
  | rd h => cases h; rfl
  | ob e h => exact h.elim
  | ls e e2 => cases e2
theorem RB.tup {ds : List D} (h : RB K A H v (.tuple ds)) : ∃ a xs, v = .ref a ∧ SqT K H a xs ∧ RDs K A H xs ds := by
  cases h with
  | rd h =>
    cases h with
    | tupH r n q => exact ⟨_, _, rfl, .inl r, q⟩
    | tupK r q => exact ⟨_, _, rfl, .inr r, q⟩
  | ob e h => exact h.elim
  | ls e e2 => cases e2
theorem RB.lst {ds : List D} (h : RB K A H v (.list ds)) : ∃ a xs, v = .ref a ∧ SqL K H a xs ∧ RDs K A H xs ds := by
  cases h with
  | rd h =>
    cases h with
    | lstH r n q => exact ⟨_, _, rfl, .inl r, q⟩
    | lstK r q => exact ⟨_, _, rfl, .inr r, q⟩
  | ob e h => obtain ⟨xs, h, q⟩ := h; exact ⟨_, _, e, SqL.of h, q⟩
  | ls e e2 h q => cases e2; exact ⟨_, _, e, h, q⟩
theorem RB.dct {ds : List (D × D)} (h : RB K A H v (.dict ds)) : ∃ a xs, v = .ref a ∧ H a = some (.dK xs) ∧ RKs K A H xs ds := by
  cases h with
  | rd h =>
    cases h with
    | dct r n q => exact ⟨_, _, rfl, r, q⟩
  | ob e h => obtain ⟨xs, h, q⟩ := h; exact ⟨_, _, e, h, q⟩
  | ls e e2 => cases e2
end
mutual
def noDict : D → Bool
  | .dict _ => false
  | .tuple ds => noDicts ds
  | .list ds => noDicts ds
  | _ => true
def noDicts : List D → Bool
  | [] => true
  | d :: ds => noDict d && noDicts ds
end
section
variable {K : PySem.W.Frag} {A : Fo} {H : Hp}
theorem sqT_K {a : Addr} {xs : List V} (h : KTup K a xs) : SqT K H a xs := .inr h
theorem sqL_K {a : Addr} {xs : List V} (h : KLst K a xs) : SqL K H a xs := .inr h
mutual
theorem RD.dp : ∀ (d : D) (v : V), RD K A H v d → noDict d = true → Dp K H v d
  | .none, _, h, _ => by cases h; exact .non
  | .bool b, _, h, _ => by cases h; exact .bl b
  | .int i, _, h, _ => by cases h; exact .int i
  | .str x, _, h, _ => by cases h; exact .str x
  | .tuple ds, _, h, n => by
    have n' : noDicts ds = true := by simpa [noDict] using n
    cases h with
    | tupH r _ q => exact .tup (.inl r) (RDs.dp ds _ q n')
    | tupK r q => exact .tup (sqT_K r) (RDs.dp ds _ q n')
  | .list ds, _, h, n => by
    have n' : noDicts ds = true := by simpa [noDict] using n
    cases h with
    | lstH r _ q => exact .lst (.inl r) (RDs.dp ds _ q n')
    | lstK r q => exact .lst (sqL_K r) (RDs.dp ds _ q n')
  | .dict ks, _, h, n => by simp [noDict] at n
theorem RDs.dp : ∀ (ds : List D) (vs : List V), RDs K A H vs ds → noDicts ds = true → DpAll K H vs ds
  | [], _, h, _ => by cases h; exact .nil
  | d :: ds, _, h, n => by
    have n' : noDict d = true ∧ noDicts ds = true := by simpa [noDicts] using n
    cases h with
    | cons h1 h2 => exact .cons (RD.dp d _ h1 n'.1) (RDs.dp ds _ h2 n'.2)
end
theorem RB.dp {d : D} {v : V} (h : RB K A H v d) (n : noDict d = true) : Dp K H v d := by
  cases h with
  | rd h => exact RD.dp d v h n
  | ob e h =>
    subst e
    cases d <;> first
      | exact h.elim
      | (obtain ⟨xs, h, q⟩ := h; exact .lst (SqL.of h) (RDs.dp _ _ q (by simpa [noDict] using n)))
      | (simp [noDict] at n)
  | ls e e2 h q =>
    subst e e2
    exact .lst h (RDs.dp _ _ q (by simpa [noDict] using n))
end
mutual
theorem noDict_lay : ∀ d : D, d.canLay0 = true → noDict d = true
  | .none, _ => rfl
  | .bool _, _ => rfl
  | .int _, _ => rfl
  | .str _, _ => rfl
  | .tuple ds, h => by
    have h' : PyData.canLayAll0 ds = true := by simpa [PyData.canLay0] using h
    simpa [noDict] using noDicts_lay ds h'
  | .list ds, h => by
    have h' : PyData.canLayAll0 ds = true := by simpa [PyData.canLay0] using h
    simpa [noDict] using noDicts_lay ds h'
  | .dict ks, h => by simp [PyData.canLay0] at h
theorem noDicts_lay : ∀ ds : List D, PyData.canLayAll0 ds = true → noDicts ds = true
  | [], _ => rfl
  | d :: ds, h => by
    have h' : d.canLay0 = true ∧ PyData.canLayAll0 ds = true := by simpa [PyData.canLayAll0] using h
    simp [noDicts, noDict_lay d h'.1, noDicts_lay ds h'.2]
end
theorem noDict_shaped {d : D} (h : SeqAt.shaped d = true) : noDict d = true := noDict_lay d (Bool.and_eq_true_iff.mp h).1
end Vx
set_option maxHeartbeats 2000000
namespace Vx
open PySem PySem.Spec PyProof.Rows L2
/-- a slot: without a value; data; a list lent to be read; an own list; a list lent to be changed -/
inductive Sl where
  | un | cl (d : D) | bo (d : D) | ow (d : D) | le (d : D)
abbrev Ev := List Sl
structure Er where
  cls : Str
  arg : Option D := none
inductive Rs (α : Type) where
  | ok (a : α) (ρ : Ev)
  | er (x : Er) (ρ : Ev)
  | no
abbrev M (α : Type) := Ev → Rs α
def Rs.bind {α β : Type} (r : Rs α) (f : α → Ev → Rs β) : Rs β := match r with
  | .ok a ρ => f a ρ
  | .er x ρ => .er x ρ
  | .no => .no
@[simp] theorem Rs.bind_ok {α β : Type} (a : α) (ρ : Ev) (f : α → Ev → Rs β) : (Rs.ok a ρ).bind f = f a ρ := rfl
@[simp] theorem Rs.bind_er {α β : Type} (x : Er) (ρ : Ev) (f : α → Ev → Rs β) : (Rs.er x ρ).bind f = .er x ρ := rfl
@[simp] theorem Rs.bind_no {α β : Type} (f : α → Ev → Rs β) : (Rs.no : Rs α).bind f = .no := rfl
/-- from an option -/
def opt {α : Type} (ρ : Ev) : Option α → Rs α
  | some a => .ok a ρ
  | none => .no
@[simp] theorem opt_some {α : Type} (ρ : Ev) (a : α) : opt ρ (some a) = .ok a ρ := rfl
@[simp] theorem opt_none {α : Type} (ρ : Ev) : opt ρ (none : Option α) = .no := rfl
/-- a value: data, a new list (dict), the list of a slot -/
inductive Op where
  | val (d : D) | fr (d : D) | sl (i : Nat)
def rdS : Option Sl → Option D
  | some (.cl d) => some d
  | some (.bo d) => some d
  | some (.ow d) => some d
  | some (.le d) => some d
  | _ => none
@[simp] theorem rdS_cl (d : D) : rdS (some (.cl d)) = some d := rfl
@[simp] theorem rdS_bo (d : D) : rdS (some (.bo d)) = some d := rfl
@[simp] theorem rdS_ow (d : D) : rdS (some (.ow d)) = some d := rfl
@[simp] theorem rdS_le (d : D) : rdS (some (.le d)) = some d := rfl
def rd (ρ : Ev) : Op → Option D
  | .val d => some d
  | .fr d => some d
  | .sl i => rdS ρ[i]?
@[simp] theorem rd_val (ρ : Ev) (d : D) : rd ρ (.val d) = some d := rfl
@[simp] theorem rd_fr (ρ : Ev) (d : D) : rd ρ (.fr d) = some d := rfl
@[simp] theorem rd_sl (ρ : Ev) (i : Nat) : rd ρ (.sl i) = rdS ρ[i]? := rfl
def mC (d : D) : M Op := fun ρ => .ok (.val d) ρ
def slV (i : Nat) : Option Sl → Option Op
  | some (.cl d) => some (.val d)
  | some (.bo _) => some (.sl i)
  | some (.ow _) => some (.sl i)
  | some (.le _) => some (.sl i)
  | _ => none
@[simp] theorem slV_cl (i : Nat) (d : D) : slV i (some (.cl d)) = some (.val d) := rfl
@[simp] theorem slV_bo (i : Nat) (d : D) : slV i (some (.bo d)) = some (.sl i) := rfl
@[simp] theorem slV_ow (i : Nat) (d : D) : slV i (some (.ow d)) = some (.sl i) := rfl
@[simp] theorem slV_le (i : Nat) (d : D) : slV i (some (.le d)) = some (.sl i) := rfl
def mV (i : Nat) : M Op := fun ρ => opt ρ (slV i ρ[i]?)
def m1 (f : D → Option Op) (ma : M Op) : M Op := fun ρ => (ma ρ).bind fun x ρ1 => opt ρ1 ((rd ρ1 x).bind f)
def m2 (f : D → D → Option Op) (ma mb : M Op) : M Op := fun ρ => (ma ρ).bind fun x ρ1 => (mb ρ1).bind fun y ρ2 => opt ρ2 ((rd ρ2 x).bind fun a => (rd ρ2 y).bind fun b => f a b)
/-- argument lists -/
def aNil : M (List Op) := fun ρ => .ok [] ρ
def aCons (ma : M Op) (as : M (List Op)) : M (List Op) := fun ρ => (ma ρ).bind fun x ρ1 => (as ρ1).bind fun xs ρ2 => .ok (x :: xs) ρ2
def rds (ρ : Ev) : List Op → Option (List D)
  | [] => some []
  | x :: xs => (rd ρ x).bind fun a => (rds ρ xs).bind fun as => some (a :: as)
@[simp] theorem rds_nil (ρ : Ev) : rds ρ [] = some [] := rfl
@[simp] theorem rds_cons (ρ : Ev) (x : Op) (xs : List Op) : rds ρ (x :: xs) = (rd ρ x).bind fun a => (rds ρ xs).bind fun as => some (a :: as) := rfl
def mB (f : List D → Option Op) (as : M (List Op)) : M Op := fun ρ => (as ρ).bind fun xs ρ1 => opt ρ1 ((rds ρ1 xs).bind f)
/-- data of a value that is kept: an own list is shared from now on -/
def keepS (i : Nat) (ρ : Ev) : Option Sl → Option (D × Ev)
  | some (.cl d) => some (d, ρ)
  | some (.ow d) => some (d, ρ.set i (.cl d))
  | _ => none
@[simp] theorem keepS_cl (i : Nat) (ρ : Ev) (d : D) : keepS i ρ (some (.cl d)) = some (d, ρ) := rfl
@[simp] theorem keepS_ow (i : Nat) (ρ : Ev) (d : D) : keepS i ρ (some (.ow d)) = some (d, ρ.set i (.cl d)) := rfl
def kp (ρ : Ev) : Op → Option (D × Ev)
  | .val d => some (d, ρ)
  | .fr d => some (d, ρ)
  | .sl i => keepS i ρ ρ[i]?
@[simp] theorem kp_val (ρ : Ev) (d : D) : kp ρ (.val d) = some (d, ρ) := rfl
@[simp] theorem kp_fr (ρ : Ev) (d : D) : kp ρ (.fr d) = some (d, ρ) := rfl
@[simp] theorem kp_sl (ρ : Ev) (i : Nat) : kp ρ (.sl i) = keepS i ρ ρ[i]? := rfl
/-- from an option with a new environment -/
def optE {α : Type} : Option (α × Ev) → Rs α
  | some (a, ρ) => .ok a ρ
  | none => .no
@[simp] theorem optE_some {α : Type} (a : α) (ρ : Ev) : optE (some (a, ρ)) = .ok a ρ := rfl
@[simp] theorem optE_none {α : Type} : optE (none : Option (α × Ev)) = .no := rfl
/-- the value is data from now on -/
def mK (ma : M Op) : M D := fun ρ => (ma ρ).bind fun x ρ1 => optE (kp ρ1 x)
/-- kept arguments (a display's) -/
def kNil : M (List D) := fun ρ => .ok [] ρ
def kCons (ma : M Op) (as : M (List D)) : M (List D) := fun ρ => (mK ma ρ).bind fun x ρ1 => (as ρ1).bind fun xs ρ2 => .ok (x :: xs) ρ2
def mTup (as : M (List D)) : M Op := fun ρ => (as ρ).bind fun xs ρ1 => if xs.length ≤ sizeLine then .ok (.val (.tuple xs)) ρ1 else .no
def mLst (as : M (List D)) : M Op := fun ρ => (as ρ).bind fun xs ρ1 => if xs.length ≤ sizeLine then .ok (.fr (.list xs)) ρ1 else .no
def isB : D → Option Bool
  | .bool b => some b
  | _ => none
@[simp] theorem isB_bool (b : Bool) : isB (.bool b) = some b := rfl
def truD : D → Option Bool
  | .none => some false
  | .bool b => some b
  | .int i => some (i != 0)
  | .str x => if x.length ≤ sizeLine then some (x.length != 0) else none
  | .list ds => some (!ds.isEmpty)
  | .tuple ds => some (!ds.isEmpty)
  | _ => none
/-- a test whose value is a bool -/
def mT (ma : M Op) : M Bool := fun ρ => (ma ρ).bind fun x ρ1 => opt ρ1 ((rd ρ1 x).bind isB)
/-- a test by truth -/
def mTr (ma : M Op) : M Bool := fun ρ => (ma ρ).bind fun x ρ1 => opt ρ1 ((rd ρ1 x).bind truD)
def mNot (t : M Bool) : M Bool := fun ρ => (t ρ).bind fun b ρ1 => .ok (!b) ρ1
def mAnd (t u : M Bool) : M Bool := fun ρ => (t ρ).bind fun b ρ1 => if b = true then u ρ1 else .ok false ρ1
def mOr (t u : M Bool) : M Bool := fun ρ => (t ρ).bind fun b ρ1 => if b = true then .ok true ρ1 else u ρ1
def mIf {α : Type} (c : M Bool) (a b : M α) : M α := fun ρ => (c ρ).bind fun k ρ1 => if k = true then a ρ1 else b ρ1
/-- not x, as a value -/
def mNotV (t : M Bool) : M Op := fun ρ => (t ρ).bind fun b ρ1 => .ok (.val (.bool (!b))) ρ1
/-- x and y, x or y as a value, x a bool -/
def mAndV (t : M Bool) (u : M Op) : M Op := fun ρ => (t ρ).bind fun b ρ1 => if b = true then u ρ1 else .ok (.val (.bool false)) ρ1
def mOrV (t : M Bool) (u : M Op) : M Op := fun ρ => (t ρ).bind fun b ρ1 => if b = true then .ok (.val (.bool true)) ρ1 else u ρ1
inductive Fl where
  | nx | bk | ct | rt (x : Op)
def sNx : M Fl := fun ρ => .ok .nx ρ
def sBk : M Fl := fun ρ => .ok .bk ρ
def sCt : M Fl := fun ρ => .ok .ct ρ
def sSeq (a b : M Fl) : M Fl := fun ρ => (a ρ).bind fun f ρ1 => match f with
  | .nx => b ρ1
  | .bk => .ok .bk ρ1
  | .ct => .ok .ct ρ1
  | .rt x => .ok (.rt x) ρ1
def sIf (c : M Bool) (a b : M Fl) : M Fl := mIf c a b
def sRet (ma : M Op) : M Fl := fun ρ => (ma ρ).bind fun x ρ1 => .ok (.rt x) ρ1
def sRetN : M Fl := fun ρ => .ok (.rt (.val .none)) ρ
def sDrop (ma : M Op) : M Fl := fun ρ => (ma ρ).bind fun _ ρ1 => .ok .nx ρ1
def sNo : M Fl := fun _ => .no
/-- a slot may be stored to -/
def free : Option Sl → Bool
  | some (.le _) => false
  | some _ => true
  | none => false
/-- the value goes to the slot i -/
def stO (i : Nat) (ρ : Ev) : Op → Option Ev
  | .val d => if free ρ[i]? then some (ρ.set i (.cl d)) else none
  | .fr d => if free ρ[i]? then some (ρ.set i (.ow d)) else none
  | .sl j => if free ρ[i]? then (keepS j ρ ρ[j]?).bind fun p => some (p.2.set i (.cl p.1)) else none
def oNx : Option Ev → Rs Fl
  | some ρ => .ok .nx ρ
  | none => .no
@[simp] theorem oNx_some (ρ : Ev) : oNx (some ρ) = .ok .nx ρ := rfl
@[simp] theorem oNx_none : oNx none = .no := rfl
def sSet (i : Nat) (ma : M Op) : M Fl := fun ρ => (ma ρ).bind fun x ρ1 => oNx (stO i ρ1 x)
/-- targets: data d goes to names -/
abbrev Tg := D → Ev → Option Ev
def tName (i : Nat) : Tg := fun d ρ => if free ρ[i]? then some (ρ.set i (.cl d)) else none
abbrev Tgs := List D → Ev → Option Ev
def tsNil : Tgs := fun ds ρ => match ds with
  | [] => some ρ
  | _ => none
def tsCons (t : Tg) (u : Tgs) : Tgs := fun ds ρ => match ds with
  | d :: r => (t d ρ).bind (u r)
  | [] => none
def tTup (u : Tgs) : Tg := fun d ρ => match d with
  | .tuple ds => u ds ρ
  | _ => none
/-- target = data -/
def sTg (t : Tg) (ma : M Op) : M Fl := fun ρ => (mK ma ρ).bind fun d ρ1 => oNx (t d ρ1)
/-- the rest of the items -/
def forI (t : Tg) (body : M Fl) : List D → M Fl
  | [], ρ => .ok .nx ρ
  | d :: ds, ρ => match t d ρ with
    | none => .no
    | some ρ1 => (body ρ1).bind fun f ρ2 => match f with
      | .nx => forI t body ds ρ2
      | .ct => forI t body ds ρ2
      | .bk => .ok .nx ρ2
      | .rt x => .ok (.rt x) ρ2
def sFor (it : M (List D)) (t : Tg) (body : M Fl) : M Fl := fun ρ => (it ρ).bind fun ds ρ1 => forI t body ds ρ1
def whI (c : M Bool) (body : M Fl) : Nat → M Fl
  | 0, _ => .no
  | n + 1, ρ => (c ρ).bind fun b ρ1 => if b = true then (body ρ1).bind fun f ρ2 => match f with
      | .nx => whI c body n ρ2
      | .ct => whI c body n ρ2
      | .bk => .ok .nx ρ2
      | .rt x => .ok (.rt x) ρ2
    else .ok .nx ρ1
/-- what is walked -/
def itL : D → Option (List D)
  | .list ds => some ds
  | .tuple ds => some ds
  | _ => none
@[simp] theorem itL_list (ds : List D) : itL (.list ds) = some ds := rfl
@[simp] theorem itL_tuple (ds : List D) : itL (.tuple ds) = some ds := rfl
def iSeq (ma : M Op) : M (List D) := fun ρ => (mK ma ρ).bind fun d ρ1 => opt ρ1 (itL d)
def unS (ρ : Ev) : List Nat → Ev
  | [] => ρ
  | v :: vs => (unS ρ vs).set v .un
/-- no own list in the comprehension's slots -/
def wipable : Option Sl → Bool
  | some (.ow _) => false
  | some (.le _) => false
  | some _ => true
  | none => false
/-- behind the block the slots are as before -/
def bkS (ρ : Ev) (ρ' : Ev) : List Nat → Ev
  | [] => ρ'
  | v :: vs => (bkS ρ ρ' vs).set v (ρ[v]?.getD .un)
def lcI (t : Tg) (tt : M Bool) (e : M Op) (vs : List Nat) : List D → List D → M (List D)
  | [], acc, ρ => .ok acc ρ
  | d :: ds, acc, ρ => match t d (unS ρ vs) with
    | none => .no
    | some ρ1 => match tt ρ1 with
      | .ok true ρ2 => (match mK e ρ2 with
        | .ok y ρ3 => if acc.length < sizeLine then lcI t tt e vs ds (acc ++ [y]) ρ3 else .no
        | _ => .no)
      | .ok false ρ2 => lcI t tt e vs ds acc ρ2
      | _ => .no
def mLc (it : M (List D)) (t : Tg) (tt : M Bool) (e : M Op) (vs : List Nat) : M Op := fun ρ => (it ρ).bind fun ds ρ1 =>
  if vs.all (fun v => wipable ρ1[v]?) then (match lcI t tt e vs ds [] ρ1 with
    | .ok acc ρ2 => .ok (.fr (.list acc)) (bkS ρ1 ρ2 vs)
    | _ => .no) else .no
def tYesM : M Bool := fun ρ => .ok true ρ
/-- a parameter: to be read; to be kept; to be changed -/
inductive Md where
  | pl | kp | mu
  deriving DecidableEq
inductive FR where
  | ok (fr : Bool) (d : D) (outs : List D)
  | er (x : Er) (outs : List D)
  | no
def isObjD : D → Bool
  | .list _ => true
  | .dict _ => true
  | _ => false
def entS : Md → D → Sl
  | .pl, d => if isObjD d then .bo d else .cl d
  | .kp, d => .cl d
  | .mu, d => .le d
def entA : List Md → List D → Ev
  | m :: ms, d :: ds => entS m d :: entA ms ds
  | _, _ => []
def leS : Option Sl → Option D
  | some (.le d) => some d
  | _ => none
def outsA (ρ : Ev) : List Md → Nat → Option (List D)
  | [], _ => some []
  | .mu :: ms, i => (leS ρ[i]?).bind fun d => (outsA ρ ms (i + 1)).bind fun r => some (d :: r)
  | _ :: ms, i => outsA ρ ms (i + 1)
def resO (ρ : Ev) : Op → Option (Bool × D)
  | .val d => some (false, d)
  | .fr d => some (true, d)
  | .sl i => match ρ[i]? with
    | some (.ow d) => some (true, d)
    | some (.cl d) => some (false, d)
    | _ => none
def finR (md : List Md) : Rs Fl → FR
  | .ok (.rt x) ρ => (match resO ρ x, outsA ρ md 0 with
    | some (b, d), some outs => .ok b d outs
    | _, _ => .no)
  | .ok .nx ρ => (match outsA ρ md 0 with
    | some outs => .ok false .none outs
    | none => .no)
  | .er x ρ => (match outsA ρ md 0 with
    | some outs => .er x outs
    | none => .no)
  | _ => .no
/-- n: the slots behind the parameters -/
def runD (md : List Md) (n : Nat) (body : M Fl) (ds : List D) : FR :=
  if ds.length = md.length then finR md (body (entA md ds ++ List.replicate n .un)) else .no
/-- the arguments: data, the slots that are lent -/
def prep : List Md → List Op → Ev → Option (List D × List Nat × Ev)
  | [], [], ρ => some ([], [], ρ)
  | .pl :: ms, x :: xs, ρ => (rd ρ x).bind fun d => (prep ms xs ρ).bind fun r => some (d :: r.1, r.2.1, r.2.2)
  | .kp :: ms, x :: xs, ρ => (kp ρ x).bind fun p => (prep ms xs p.2).bind fun r => some (p.1 :: r.1, r.2.1, r.2.2)
  | .mu :: ms, .sl i :: xs, ρ => (match ρ[i]? with
    | some (.ow d) => (prep ms xs ρ).bind fun r => if i ∈ r.2.1 then none else some (d :: r.1, i :: r.2.1, r.2.2)
    | some (.le d) => (prep ms xs ρ).bind fun r => if i ∈ r.2.1 then none else some (d :: r.1, i :: r.2.1, r.2.2)
    | _ => none)
  | _, _, _ => none
def putS (d : D) : Option Sl → Option Sl
  | some (.ow _) => some (.ow d)
  | some (.le _) => some (.le d)
  | _ => none
def putA : List Nat → List D → Ev → Option Ev
  | [], [], ρ => some ρ
  | i :: is, d :: ds, ρ => (putS d ρ[i]?).bind fun s => putA is ds (ρ.set i s)
  | _, _, _ => none
/-- no slot that is lent to be changed is lent to be read too -/
def apart (md : List Md) (xs : List Op) (is : List Nat) : Bool := match md, xs with
  | .pl :: ms, .sl i :: xs => !decide (i ∈ is) && apart ms xs is
  | _ :: ms, _ :: xs => apart ms xs is
  | _, _ => true
def mDef (g : List D → FR) (md : List Md) (as : M (List Op)) : M Op := fun ρ => (as ρ).bind fun xs ρ1 => match prep md xs ρ1 with
  | none => .no
  | some (ds, is, ρ2) => if apart md xs is then (match g ds with
    | .ok b d outs => (match putA is outs ρ2 with
      | some ρ3 => .ok (if b then .fr d else .val d) ρ3
      | none => .no)
    | .er x outs => (match putA is outs ρ2 with
      | some ρ3 => .er x ρ3
      | none => .no)
    | .no => .no) else .no
/-- xs.append(e) -/
def mApp (i : Nat) (me : M Op) : M Op := fun ρ => (mK me ρ).bind fun d ρ1 => match ρ1[i]? with
  | some (.ow (.list ds)) => if ds.length < sizeLine then .ok (.val .none) (ρ1.set i (.ow (.list (ds ++ [d])))) else .no
  | some (.le (.list ds)) => if ds.length < sizeLine then .ok (.val .none) (ρ1.set i (.le (.list (ds ++ [d])))) else .no
  | _ => .no
end Vx
set_option maxHeartbeats 2000000
namespace Vx
open PySem PySem.Spec L2
/-- a body's constants: what is forbidden (the callers' own lists), the lent lists by slot, the heap at the entry, what is wanted of an error, the classes -/
structure Fc where
  B : Fo
  lt : Nat → Option Addr
  H0 : Hp
  W : WX
  cn : Str → Addr
  tb : List (Addr × Str)
def Fc.L (F : Fc) (b : Addr) : Prop := ∃ i, F.lt i = some b
/-- an error of a mirror, as it lies -/
def ErOk (cn : Str → Addr) (x : Er) (c : Value) (dd : Option Addr) (H : Hp) : Prop :=
  c = .ref (cn x.cls) ∧ (x.arg = none → dd = none)
/-- the tables stand where a list, a dict is changed -/
theorem tabs_upd {T : List (Addr × Str)} {H : Hp} {a : Addr} {u o : HO} (h : LamX.Tabs T H) (ha : H a = some u) (n1 : ∀ ps, u ≠ .tbl ps) (n2 : ∀ φ, u ≠ .ext φ) : LamX.Tabs T (upd H a o) := fun p hp => by
  obtain ⟨ps, h1, h2, h3⟩ := h p hp
  have np : p.1 ≠ a := fun z => by rw [z, ha] at h1; exact n1 ps (Option.some.inj h1)
  refine ⟨ps, by rw [upd_ne np]; exact h1, h2, fun pos cv hc => ?_⟩
  obtain ⟨c, e1, e2⟩ := h3 pos cv hc
  have nc : c ≠ a := fun z => by rw [z, ha] at e2; exact n2 _ (Option.some.inj e2)
  exact ⟨c, e1, by rw [upd_ne nc]; exact e2⟩
theorem tabs_lst {T : List (Addr × Str)} {H : Hp} {a : Addr} {xs : List V} {o : HO} (h : LamX.Tabs T H) (ha : H a = some (.lst xs)) : LamX.Tabs T (upd H a o) := tabs_upd h ha (fun _ z => nomatch z) fun _ z => nomatch z
theorem tabs_dct {T : List (Addr × Str)} {H : Hp} {a : Addr} {xs : List (Key × V)} {o : HO} (h : LamX.Tabs T H) (ha : H a = some (.dK xs)) : LamX.Tabs T (upd H a o) := tabs_upd h ha (fun _ z => nomatch z) fun _ z => nomatch z
def OwnS : Option Sl → Bool
  | some (.ow _) => true
  | some (.le _) => true
  | _ => false
@[simp] theorem OwnS_ow (d : D) : OwnS (some (.ow d)) = true := rfl
@[simp] theorem OwnS_le (d : D) : OwnS (some (.le d)) = true := rfl
@[simp] theorem OwnS_cl (d : D) : OwnS (some (.cl d)) = false := rfl
@[simp] theorem OwnS_bo (d : D) : OwnS (some (.bo d)) = false := rfl
@[simp] theorem OwnS_un : OwnS (some .un) = false := rfl
@[simp] theorem OwnS_none : OwnS none = false := rfl
/-- the addresses of own lists -/
def OS (σ : St) (ρ : Ev) (b : Addr) : Prop := ∃ i : Nat, OwnS ρ[i]? = true ∧ σ[i]? = some (some (V.ref b))
def Fb (F : Fc) (T : Fo) (σ : St) (ρ : Ev) (b : Addr) : Prop := F.B b ∨ T b ∨ OS σ ρ b
def BO (K : PySem.W.Frag) (F : Fc) (A : Fo) (H : Hp) (a : Addr) : D → Prop
  | .list ds => ∃ xs, ((Rd F.H0 a (.lst xs) ∧ ¬ F.L a) ∨ KLst K a xs) ∧ RDs K A H xs ds
  | .dict ks => ∃ kvs, F.H0 a = some (.dK kvs) ∧ ¬ F.L a ∧ RKs K A H kvs ks
  | _ => False
structure Rel (K : PySem.W.Frag) (F : Fc) (T : Fo) (H : Hp) (σ : St) (ρ : Ev) : Prop where
  len : ρ.length = σ.length
  cl : ∀ (i : Nat) d, ρ[i]? = some (.cl d) → ∃ v, σ[i]? = some (some v) ∧ RD K (Fb F T σ ρ) H v d
  bo : ∀ (i : Nat) d, ρ[i]? = some (.bo d) → ∃ a, σ[i]? = some (some (V.ref a)) ∧ BO K F (Fb F T σ ρ) H a d
  ow : ∀ (i : Nat) d, ρ[i]? = some (.ow d) → ∃ a, σ[i]? = some (some (V.ref a)) ∧ OB K (Fb F T σ ρ) H a d ∧ ¬ F.B a ∧ ¬ T a ∧ F.H0 a = none
  le : ∀ (i : Nat) d, ρ[i]? = some (.le d) → ∃ a, F.lt i = some a ∧ σ[i]? = some (some (V.ref a)) ∧ OB K (Fb F T σ ρ) H a d ∧ ¬ F.B a ∧ ¬ T a
  inj : ∀ (i j : Nat) b, OwnS ρ[i]? = true → σ[i]? = some (some (V.ref b)) → OwnS ρ[j]? = true → σ[j]? = some (some (V.ref b)) → i = j
  keep : ∀ b o, F.H0 b = some o → nTb o = true → ¬ F.L b → H b = some o
  dom : ∀ b, F.H0 b ≠ none → H b ≠ none
  tdom : ∀ b, F.B b ∨ T b → H b ≠ none
  tabs : LamX.Tabs F.tb H
section
variable {K : PySem.W.Frag} {F : Fc} {T T' : Fo} {H H' : Hp} {σ : St} {ρ ρ' : Ev}
theorem ownS_cases {s : Option Sl} (h : OwnS s = true) : ∃ d, s = some (.ow d) ∨ s = some (.le d) := by
  cases s with
  | none => cases h
  | some s => cases s <;> first | (cases h; done) | exact ⟨_, .inl rfl⟩ | exact ⟨_, .inr rfl⟩
theorem Rel.os (R : Rel K F T H σ ρ) {b : Addr} (h : OS σ ρ b) : ¬ F.B b ∧ ¬ T b ∧ ∃ o, H b = some o := by
  obtain ⟨i, h1, h2⟩ := h
  obtain ⟨d, e | e⟩ := ownS_cases h1
  · obtain ⟨a, q1, q2, q3, q4, _⟩ := R.ow i d e
    rw [h2] at q1; cases q1
    exact ⟨q3, q4, q2.at⟩
  · obtain ⟨a, _, q1, q2, q3, q4⟩ := R.le i d e
    rw [h2] at q1; cases q1
    exact ⟨q3, q4, q2.at⟩
theorem Rel.fbd (R : Rel K F T H σ ρ) {b : Addr} (h : Fb F T σ ρ b) : H b ≠ none := by
  rcases h with h | h | h
  · exact R.tdom b (.inl h)
  · exact R.tdom b (.inr h)
  · obtain ⟨_, _, o, e⟩ := R.os h
    rw [e]; exact fun z => nomatch z
theorem BO.mono {A A' : Fo} {a : Addr} {d : D} (h : BO K F A H a d) (l : Le A H A' H') : BO K F A' H' a d := by
  cases d <;> first
    | exact h.elim
    | (obtain ⟨xs, h, q⟩ := h; exact ⟨xs, h, RDs.mono l _ _ q⟩)
    | (obtain ⟨xs, h, n, q⟩ := h; exact ⟨xs, h, n, RKs.mono l _ _ q⟩)
theorem Rel.boRB (R : Rel K F T H σ ρ) {A : Fo} {a : Addr} {d : D} (h : BO K F A H a d) : RB K A H (.ref a) d := by
  cases d <;> first
    | exact h.elim
    | (obtain ⟨xs, h, q⟩ := h
       refine .ls rfl rfl ?_ q
       rcases h with ⟨h | ⟨o, h⟩, n⟩ | h
       · exact .inl (.inl (R.keep _ _ h rfl n))
       · exact .inl (.inr ⟨o, R.keep _ _ h rfl n⟩)
       · exact sqL_K h)
    | (obtain ⟨xs, h, n, q⟩ := h; exact .ob rfl ⟨xs, R.keep _ _ h rfl n, q⟩)
/-- the relation at another forbidden set, another heap: the own lists' contents stand -/
theorem Rel.to (R : Rel K F T H σ ρ) (l : Le (Fb F T σ ρ) H (Fb F T' σ ρ) H') (own : ∀ b, OS σ ρ b → ∀ o, H b = some o → H' b = some o)
    (nt : ∀ b, OS σ ρ b → ¬ T' b) (td : ∀ b, F.B b ∨ T' b → H' b ≠ none) (kp : ∀ b o, F.H0 b = some o → nTb o = true → ¬ F.L b → H b = some o → H' b = some o) (dm : ∀ b, H b ≠ none → H' b ≠ none) (tt : LamX.Tabs F.tb H → LamX.Tabs F.tb H') : Rel K F T' H' σ ρ := by
  have os : ∀ (i : Nat) a, OwnS ρ[i]? = true → σ[i]? = some (some (V.ref a)) → OS σ ρ a := fun i a h1 h2 => ⟨i, h1, h2⟩
  refine ⟨R.len, fun i d e => ?_, fun i d e => ?_, fun i d e => ?_, fun i d e => ?_, R.inj, fun b o h t n => kp b o h t n (R.keep b o h t n), fun b h => dm b (R.dom b h), td, tt R.tabs⟩
  · obtain ⟨v, q1, q2⟩ := R.cl i d e
    exact ⟨v, q1, RD.mono l _ _ q2⟩
  · obtain ⟨v, q1, q2⟩ := R.bo i d e
    exact ⟨v, q1, q2.mono l⟩
  · obtain ⟨a, q1, q2, q3, q4, q5⟩ := R.ow i d e
    have oa := os i a (by rw [e]; rfl) q1
    exact ⟨a, q1, q2.mono l (own a oa), q3, nt a oa, q5⟩
  · obtain ⟨a, q0, q1, q2, q3, q4⟩ := R.le i d e
    have oa := os i a (by rw [e]; rfl) q1
    exact ⟨a, q0, q1, q2.mono l (own a oa), q3, nt a oa⟩
/-- the heap grows -/
theorem Rel.grow (R : Rel K F T H σ ρ) (g : ∀ b o, H b = some o → H' b = some o) : Rel K F T H' σ ρ :=
  R.to (Le.same g) (fun _ _ => g _) (fun b h => (R.os h).2.1) (fun b h z => R.tdom b h (by
    cases q : H b with
    | none => rfl
    | some o => rw [g b o q] at z; cases z)) (fun b o _ _ _ h => g b o h) (fun b h z => h (by
    cases q : H b with
    | none => rfl
    | some o => rw [g b o q] at z; cases z)) fun z => LamX.Tabs.ext z g
theorem grow_dom (g : ∀ b o, H b = some o → H' b = some o) (b : Addr) (h : H b ≠ none) : H' b ≠ none := fun z => h (by
    cases q : H b with
    | none => rfl
    | some o => rw [g b o q] at z; cases z)
/-- less is forbidden -/
theorem Rel.less (R : Rel K F T H σ ρ) (h : ∀ b, T' b → T b) : Rel K F T' H σ ρ :=
  R.to (Le.less fun b z => z.elim .inl fun z => z.elim (fun z => .inr (.inl (h b z))) fun z => .inr (.inr z)) (fun _ _ _ q => q) (fun b q z => (R.os q).2.1 (h b z)) (fun b q => R.tdom b (q.imp id (h b))) (fun _ _ _ _ _ q => q) (fun _ q => q) id
/-- new objects are forbidden -/
theorem Rel.more (R : Rel K F T H σ ρ) (h : ∀ b, T' b → T b ∨ (H b = none ∧ H' b ≠ none)) (g : ∀ b o, H b = some o → H' b = some o) : Rel K F T' H' σ ρ := by
  refine R.to ⟨fun b o q _ _ => g b o q, fun b z => ?_, grow_dom g⟩ (fun _ _ => g _) (fun b q z => ?_) (fun b q => ?_) (fun b o _ _ _ q => g b o q) (grow_dom g) fun z => LamX.Tabs.ext z g
  · rcases z with z | z | z
    · exact .inl (.inl z)
    · exact (h b z).imp (fun z => .inr (.inl z)) fun z => z.1
    · exact .inl (.inr (.inr z))
  · rcases h b z with z | z
    · exact (R.os q).2.1 z
    · obtain ⟨_, _, o, e⟩ := R.os q
      rw [e] at z; cases z.1
  · rcases q with q | q
    · exact grow_dom g b (R.tdom b (.inl q))
    · rcases h b q with z | z
      · exact grow_dom g b (R.tdom b (.inr z))
      · exact z.2
structure Ext (σ : St) (ρ : Ev) (H : Hp) (σ' : St) (ρ' : Ev) (H' : Hp) : Prop where
  kept : ∀ b o, H b = some o → nTb o = true → ¬ OS σ ρ b → H' b = some o
  os : ∀ b, OS σ' ρ' b → OS σ ρ b ∨ H b = none
  dom : ∀ b, H b ≠ none → H' b ≠ none
theorem Ext.refl (σ : St) (ρ : Ev) (H : Hp) : Ext σ ρ H σ ρ H := ⟨fun _ _ h _ _ => h, fun _ h => .inl h, fun _ h => h⟩
theorem Ext.grow (g : ∀ b o, H b = some o → H' b = some o) : Ext σ ρ H σ ρ H' := ⟨fun b o h _ _ => g b o h, fun _ h => .inl h, grow_dom g⟩
theorem Ext.trans {σ1 σ2 : St} {ρ1 ρ2 : Ev} {H1 H2 : Hp} (a : Ext σ ρ H σ1 ρ1 H1) (b : Ext σ1 ρ1 H1 σ2 ρ2 H2) : Ext σ ρ H σ2 ρ2 H2 := by
  refine ⟨fun c o h t n => b.kept c o (a.kept c o h t n) t fun z => ?_, fun c h => ?_, fun c h => b.dom c (a.dom c h)⟩
  · rcases a.os c z with z | z
    · exact n z
    · rw [h] at z; cases z
  · rcases b.os c h with z | z
    · exact a.os c z
    · cases q : H c with
      | none => exact .inr rfl
      | some o => exact absurd z (a.dom c (by rw [q]; exact fun z => nomatch z))
theorem Ext.le {σ' : St} {P P' : Fo} (e : Ext σ ρ H σ' ρ' H') (h : ∀ b, P' b → P b ∨ H b = none) : Le (fun b => P b ∨ OS σ ρ b) H (fun b => P' b ∨ OS σ' ρ' b) H' := by
  refine ⟨fun b o q t n => e.kept b o q t fun z => n (.inr z), fun b z => ?_, e.dom⟩
  rcases z with z | z
  · exact (h b z).imp .inl id
  · exact (e.os b z).imp .inr id
theorem fb_iff (F : Fc) (T : Fo) (σ : St) (ρ : Ev) : Fb F T σ ρ = fun b => (F.B b ∨ T b) ∨ OS σ ρ b := by
  funext b
  exact propext (by unfold Fb; exact or_assoc.symm)
theorem Ext.fb {σ' : St} (e : Ext σ ρ H σ' ρ' H') (h : ∀ b, T' b → T b ∨ H b = none) : Le (Fb F T σ ρ) H (Fb F T' σ' ρ') H' := by
  rw [fb_iff, fb_iff]
  exact e.le fun b z => z.elim (fun z => .inl (.inl z)) fun z => (h b z).imp .inr id
def VOk (K : PySem.W.Frag) (F : Fc) (T : Fo) (H : Hp) (σ : St) (ρ : Ev) (v : V) : Op → Prop
  | .val d => RD K (Fb F T σ ρ) H v d
  | .fr d => ∃ a, v = .ref a ∧ T a ∧ OB K (Fb F T σ ρ) H a d ∧ ¬ F.B a ∧ F.H0 a = none
  | .sl i => σ[i]? = some (some v)
def TTf (T : Fo) (v : V) (op : Op) (b : Addr) : Prop := T b ∨ ∃ d, op = .fr d ∧ v = .ref b
structure Post (K : PySem.W.Frag) (F : Fc) (T : Fo) (H : Hp) (σ : St) (ρ : Ev) (op : Op) (ρ' : Ev) (v : V) (H' : Hp) : Prop where
  rel : Rel K F (TTf T v op) H' σ ρ'
  ext : Ext σ ρ H σ ρ' H'
  val : VOk K F (TTf T v op) H' σ ρ' v op
  new : ∀ d a, op = .fr d → v = .ref a → H a = none
theorem Post.tt {op : Op} {v : V} (p : Post K F T H σ ρ op ρ' v H') (b : Addr) (h : TTf T v op b) : T b ∨ H b = none := by
  rcases h with h | ⟨d, e1, e2⟩
  · exact .inl h
  · exact .inr (p.new d b e1 e2)
theorem VOk.rb (R : Rel K F T H σ ρ) {op : Op} {v : V} {d : D} (h : VOk K F T H σ ρ v op) (e : rd ρ op = some d) : RB K (Fb F T σ ρ) H v d := by
  cases op with
  | val d' => cases e; exact .rd h
  | fr d' =>
    cases e
    obtain ⟨a, e1, _, q, _⟩ := h
    exact .ob e1 q
  | sl i =>
    have h : σ[i]? = some (some v) := h
    have e : rdS ρ[i]? = some d := e
    cases q : ρ[i]? with
    | none => rw [q] at e; cases e
    | some s =>
      rw [q] at e
      cases s with
      | un => cases e
      | cl d' =>
        cases e
        obtain ⟨u, q1, q2⟩ := R.cl i d q
        rw [h] at q1; cases q1
        exact .rd q2
      | bo d' =>
        cases e
        obtain ⟨a, q1, q2⟩ := R.bo i d q
        rw [h] at q1; cases q1
        exact R.boRB q2
      | ow d' =>
        cases e
        obtain ⟨a, q1, q2, _⟩ := R.ow i d q
        rw [h] at q1; cases q1
        exact .ob rfl q2
      | le d' =>
        cases e
        obtain ⟨a, _, q1, q2, _⟩ := R.le i d q
        rw [h] at q1; cases q1
        exact .ob rfl q2
/-- a value stands behind what comes later -/
theorem VOk.ext {T1 T2 : Fo} {ρ1 ρ2 : Ev} {H1 H2 : Hp} {op : Op} {v : V} (h : VOk K F T1 H1 σ ρ1 v op) (R1 : Rel K F T1 H1 σ ρ1) (e : Ext σ ρ1 H1 σ ρ2 H2) (t : ∀ b, T1 b → T2 b) (n : ∀ b, T2 b → T1 b ∨ H1 b = none) :
    VOk K F T2 H2 σ ρ2 v op := by
  have l : Le (Fb F T1 σ ρ1) H1 (Fb F T2 σ ρ2) H2 := e.fb n
  cases op with
  | val d => exact RD.mono l _ _ h
  | fr d =>
    obtain ⟨a, e1, ta, q, nb, h0⟩ := h
    exact ⟨a, e1, t a ta, q.mono' l fun o ho t => e.kept a o ho t fun z => (R1.os z).2.1 ta, nb, h0⟩
  | sl i => exact h
/-- what a rule of values gives: the heap grows, the value is data or a new list -/
structure PR (K : PySem.W.Frag) (A : Fo) (H H' : Hp) (v : V) (op : Op) : Prop where
  grow : ∀ b o, H b = some o → H' b = some o
  val : match op with
    | .val d => RD K A H' v d
    | .fr d => ∃ a, v = .ref a ∧ H a = none ∧ OB K (fun b => A b ∨ b = a) H' a d
    | .sl _ => False
theorem Rel.h0none (R : Rel K F T H σ ρ) {a : Addr} (h : H a = none) : F.H0 a = none := by
  cases q : F.H0 a with
  | none => rfl
  | some o => exact absurd h (R.dom a (by rw [q]; exact fun z => nomatch z))
/-- the end of an evaluation by a rule of values -/
theorem fin_ {T2 : Fo} {ρ2 : Ev} {H2 H3 : Hp} {op : Op} {v : V} (R2 : Rel K F T2 H2 σ ρ2) (e : Ext σ ρ H σ ρ2 H2) (t : ∀ b, T b → T2 b) (p : PR K (Fb F T2 σ ρ2) H2 H3 v op) : Post K F T H σ ρ op ρ2 v H3 := by
  have Rt := R2.less t
  cases op with
  | val d =>
    have tt : ∀ b, TTf T v (.val d) b → T b := fun b h => h.elim id fun ⟨_, e, _⟩ => nomatch e
    refine ⟨(Rt.less tt).grow p.grow, e.trans (Ext.grow p.grow), ?_, fun _ _ e => nomatch e⟩
    exact RD.mono (Le.less fun b z => z.elim .inl fun z => z.elim (fun z => .inr (.inl (t b (tt b z)))) fun z => .inr (.inr z)) _ _ p.val
  | fr d =>
    obtain ⟨a, e1, hn, q⟩ := p.val
    subst e1
    have ha : H3 a ≠ none := by
      obtain ⟨o, h⟩ := q.at
      rw [h]; exact fun z => nomatch z
    have tt : ∀ b, TTf T (.ref a) (.fr d) b → T b ∨ b = a := fun b h => h.imp id fun ⟨_, _, e⟩ => by cases e; rfl
    have R3 : Rel K F (TTf T (.ref a) (.fr d)) H3 σ ρ2 := Rt.more (fun b h => (tt b h).imp id fun z => by subst z; exact ⟨hn, ha⟩) p.grow
    have n2 : ∀ b, F.B b → b ≠ a := fun b h z => R2.tdom b (.inl h) (z ▸ hn)
    refine ⟨R3, e.trans (Ext.grow p.grow), ⟨a, rfl, .inr ⟨d, rfl, rfl⟩, ?_, fun h => n2 a h rfl, R2.h0none hn⟩, fun _ b _ e2 => ?_⟩
    · -- the content: nothing of it is the list itself
      refine q.mono (Le.less fun b z => ?_) fun _ h => h
      rcases z with z | z | z
      · exact .inl (.inl z)
      · exact (tt b z).imp (fun z => .inr (.inl (t b z))) id
      · exact .inl (.inr (.inr z))
    · cases e2
      cases q2 : H a with
      | none => rfl
      | some o => exact absurd hn (e.dom a (by rw [q2]; exact fun z => nomatch z))
  | sl i => exact p.val.elim
end
end Vx
set_option maxHeartbeats 2000000
namespace Vx
open PySem PySem.Spec L2
section
variable {X : Cx}
theorem _root_.L2.PE.imp {e : Expr} {t t' : TE} (h : PE X e t) (i : ∀ σ H Q, t' σ H Q → t σ H Q) : PE X e t' := ⟨fun pins s σ H Q I q => h.run pins s σ H Q I (i _ _ _ q)⟩
theorem _root_.L2.PT.imp {e : Expr} {t t' : TT} (h : PT X e t) (i : ∀ σ H Q, t' σ H Q → t σ H Q) : PT X e t' := ⟨fun pins s σ H Q I q => h.run pins s σ H Q I (i _ _ _ q)⟩
theorem _root_.L2.PW.imp {e : Expr} {t t' : TT} (h : PW X e t) (i : ∀ σ H Q, t' σ H Q → t σ H Q) : PW X e t' := ⟨fun wh pins s σ H Q I q => h.run wh pins s σ H Q I (i _ _ _ q)⟩
theorem _root_.L2.PA.imp {e : List Expr} {t t' : TA} (h : PA X e t) (i : ∀ σ H Q, t' σ H Q → t σ H Q) : PA X e t' := ⟨fun p pins s σ H Q I q => h.run p pins s σ H Q I (i _ _ _ q)⟩
theorem _root_.L2.PS.imp {e : Stmt} {t t' : TS} (h : PS X e t) (i : ∀ D σ H, t' D σ H → t D σ H) : PS X e t' := ⟨fun pins s σ H D I q => h.run pins s σ H D I (i _ _ _ q)⟩
theorem _root_.L2.PSs.imp {e : List Stmt} {t t' : TS} (h : PSs X e t) (i : ∀ D σ H, t' D σ H → t D σ H) : PSs X e t' := ⟨fun pins s σ H D I q => h.run pins s σ H D I (i _ _ _ q)⟩
theorem _root_.L2.PG.imp {e : Expr} {t t' : TG} (h : PG X e t) (i : ∀ v σ H Q, t' v σ H Q → t v σ H Q) : PG X e t' := ⟨fun pins s σ H v u Q I r q => h.run pins s σ H v u Q I r (i _ _ _ _ q)⟩
theorem _root_.L2.PGs.imp {e : List Expr} {t t' : TGs} (h : PGs X e t) (i : ∀ v σ H Q, t' v σ H Q → t v σ H Q) : PGs X e t' := ⟨fun pins s σ H v u Q I r q => h.run pins s σ H v u Q I r (i _ _ _ _ q)⟩
theorem _root_.L2.PI.imp {tg e : Expr} {t t' : TI} (h : PI X tg e t) (i : ∀ σ H Q, t' σ H Q → t σ H Q) : PI X tg e t' := ⟨fun pins s σ H Q I q => h.run pins s σ H Q I (i _ _ _ q)⟩
theorem _root_.L2.PTs.imp {e : List Expr} {t t' : TT} (h : PTs X e t) (i : ∀ σ H Q, t' σ H Q → t σ H Q) : PTs X e t' := ⟨fun pins s σ H Q I q => h.run pins s σ H Q I (i _ _ _ q)⟩
theorem _root_.L2.PO.imp {e : Option Expr} {t t' : TO} (h : PO X e t) (i : ∀ σ H Q, t' σ H Q → t σ H Q) : PO X e t' := ⟨fun pins s σ H Q I q => h.run pins s σ H Q I (i _ _ _ q)⟩
end
abbrev noT : Fo := fun _ => False
section
variable (K : PySem.W.Frag) (F : Fc)
def ErP (T : Fo) (H : Hp) (σ : St) (ρ : Ev) (x : Er) (ρ' : Ev) : Prop := ∀ c dd H', Rel K F T H' σ ρ' → Ext σ ρ H σ ρ' H' → ErOk F.cn x c dd H' → F.W c dd σ H'
def GE (T : Fo) (H : Hp) (σ : St) (ρ : Ev) (Q : VK) : Rs Op → Prop
  | .ok op ρ' => ∀ v H', Post K F T H σ ρ op ρ' v H' → Q v H'
  | .er x ρ' => ErP K F T H σ ρ x ρ'
  | .no => False
def liftE (m : M Op) : TE := fun σ H Q => ∃ T ρ, Rel K F T H σ ρ ∧ GE K F T H σ ρ Q (m ρ)
def GT (T : Fo) (H : Hp) (σ : St) (ρ : Ev) (Q : Bool → Hp → Prop) : Rs Bool → Prop
  | .ok b ρ' => ∀ H', Rel K F T H' σ ρ' → Ext σ ρ H σ ρ' H' → Q b H'
  | .er x ρ' => ErP K F T H σ ρ x ρ'
  | .no => False
def liftT (m : M Bool) : TT := fun σ H Q => ∃ T ρ, Rel K F T H σ ρ ∧ GT K F T H σ ρ Q (m ρ)
/-- a value that is kept -/
def GK (T : Fo) (H : Hp) (σ : St) (ρ : Ev) (Q : VK) : Rs D → Prop
  | .ok d ρ' => ∀ v H', Rel K F T H' σ ρ' → Ext σ ρ H σ ρ' H' → RD K (Fb F T σ ρ') H' v d → Q v H'
  | .er x ρ' => ErP K F T H σ ρ x ρ'
  | .no => False
def liftK (m : M D) : TE := fun σ H Q => ∃ T ρ, Rel K F T H σ ρ ∧ GK K F T H σ ρ Q (m ρ)
def GKs (T : Fo) (H : Hp) (σ : St) (ρ : Ev) (Q : List V → Hp → Prop) : Rs (List D) → Prop
  | .ok ds ρ' => ∀ vs H', Rel K F T H' σ ρ' → Ext σ ρ H σ ρ' H' → RDs K (Fb F T σ ρ') H' vs ds → Q vs H'
  | .er x ρ' => ErP K F T H σ ρ x ρ'
  | .no => False
def liftKs (m : M (List D)) : TA := fun σ H Q => ∃ T ρ, Rel K F T H σ ρ ∧ GKs K F T H σ ρ Q (m ρ)
inductive VOks (T : Fo) (H : Hp) (σ : St) (ρ : Ev) : List V → List Op → Prop
  | nil : VOks T H σ ρ [] []
  | cons {v : V} {vs : List V} {x : Op} {xs : List Op} : VOk K F T H σ ρ v x → VOks T H σ ρ vs xs → VOks T H σ ρ (v :: vs) (x :: xs)
def GA (T : Fo) (H : Hp) (σ : St) (ρ : Ev) (Q : List V → Hp → Prop) : Rs (List Op) → Prop
  | .ok xs ρ' => ∀ T' vs H', (∀ b, T b → T' b) → (∀ b, T' b → T b ∨ H b = none) → Rel K F T' H' σ ρ' → Ext σ ρ H σ ρ' H' → VOks K F T' H' σ ρ' vs xs → Q vs H'
  | .er x ρ' => ErP K F T H σ ρ x ρ'
  | .no => False
def liftA (m : M (List Op)) : TA := fun σ H Q => ∃ T ρ, Rel K F T H σ ρ ∧ GA K F T H σ ρ Q (m ρ)
end
abbrev QE (X : Cx) (F : Fc) (e : Expr) (m : M Op) : Prop := PE X e (liftE X.K F m)
abbrev QT (X : Cx) (F : Fc) (e : Expr) (m : M Bool) : Prop := PT X e (liftT X.K F m)
abbrev QW (X : Cx) (F : Fc) (e : Expr) (m : M Bool) : Prop := PW X e (liftT X.K F m)
abbrev QK (X : Cx) (F : Fc) (e : Expr) (m : M D) : Prop := PE X e (liftK X.K F m)
abbrev QKs (X : Cx) (F : Fc) (es : List Expr) (m : M (List D)) : Prop := PA X es (liftKs X.K F m)
abbrev QA (X : Cx) (F : Fc) (es : List Expr) (m : M (List Op)) : Prop := PA X es (liftA X.K F m)
section
variable {K : PySem.W.Frag} {F : Fc} {T T' T1 : Fo} {H H' H1 : Hp} {σ : St} {ρ ρ' ρ1 : Ev}
theorem ErP.back {x : Er} (h : ErP K F T H σ ρ x ρ') (e : Ext σ ρ H σ ρ1 H1) (t : ∀ b, T b → T1 b) : ErP K F T1 H1 σ ρ1 x ρ' := fun c dd H' R e' k => h c dd H' (R.less t) (e.trans e') k
theorem VOks.ext {T1 T2 : Fo} {ρ1 ρ2 : Ev} {H1 H2 : Hp} (R1 : Rel K F T1 H1 σ ρ1) (e : Ext σ ρ1 H1 σ ρ2 H2) (t : ∀ b, T1 b → T2 b) (n : ∀ b, T2 b → T1 b ∨ H1 b = none) : ∀ {vs : List V} {xs : List Op}, VOks K F T1 H1 σ ρ1 vs xs → VOks K F T2 H2 σ ρ2 vs xs
  | _, _, .nil => .nil
  | _, _, .cons h q => .cons (h.ext R1 e t n) (VOks.ext R1 e t n q)
/-- read now -/
inductive RBs (K : PySem.W.Frag) (A : Fo) (H : Hp) : List V → List D → Prop
  | nil : RBs K A H [] []
  | cons {v : V} {vs : List V} {d : D} {ds : List D} : RB K A H v d → RBs K A H vs ds → RBs K A H (v :: vs) (d :: ds)
theorem VOks.rbs (R : Rel K F T H σ ρ) : ∀ {vs : List V} {xs : List Op} {ds : List D}, VOks K F T H σ ρ vs xs → rds ρ xs = some ds → RBs K (Fb F T σ ρ) H vs ds
  | _, _, _, .nil, e => by cases e; exact .nil
  | _, _, _, .cons (x := x) (xs := xs) h q, e => by
    have e : (rd ρ x).bind (fun a => (rds ρ xs).bind fun as => some (a :: as)) = some _ := e
    cases e1 : rd ρ x with
    | none => rw [e1] at e; cases e
    | some a =>
      rw [e1] at e
      cases e2 : rds ρ xs with
      | none =>
        have e : (rds ρ xs).bind (fun as => some (a :: as)) = some _ := e
        rw [e2] at e; cases e
      | some as =>
        have e : (rds ρ xs).bind (fun as => some (a :: as)) = some _ := e
        rw [e2] at e; cases e
        exact .cons (h.rb R e1) (VOks.rbs R q e2)
/-- an own list is shared from now on -/
theorem Rel.share (R : Rel K F T H σ ρ) {i : Nat} {d : D} {v : V} (e : ρ[i]? = some (.ow d)) (hv : σ[i]? = some (some v)) :
    Rel K F T H σ (ρ.set i (.cl d)) ∧ Ext σ ρ H σ (ρ.set i (.cl d)) H ∧ RD K (Fb F T σ (ρ.set i (.cl d))) H v d := by
  obtain ⟨a, q1, q2, q3, q4, q5⟩ := R.ow i d e
  rw [hv] at q1; cases q1
  have hi : i < ρ.length := (List.getElem?_eq_some_iff.mp e).1
  have ne : ∀ j : Nat, j ≠ i → (ρ.set i (.cl d))[j]? = ρ[j]? := fun j h => List.getElem?_set_ne (Ne.symm h)
  have ee : (ρ.set i (.cl d))[i]? = some (.cl d) := List.getElem?_set_self hi
  have os : ∀ b, OS σ (ρ.set i (.cl d)) b → OS σ ρ b ∧ b ≠ a := by
    rintro b ⟨j, h1, h2⟩
    by_cases hj : j = i
    · subst hj; rw [ee] at h1; cases h1
    · rw [ne j hj] at h1
      refine ⟨⟨j, h1, h2⟩, fun z => hj ?_⟩
      subst z
      exact R.inj j i b h1 h2 (by rw [e]; rfl) hv
  have fl : ∀ b, Fb F T σ (ρ.set i (.cl d)) b → Fb F T σ ρ b := fun b z => z.elim .inl fun z => z.elim (fun z => .inr (.inl z)) fun z => .inr (.inr (os b z).1)
  have na : ¬ Fb F T σ (ρ.set i (.cl d)) a := fun z => z.elim q3 fun z => z.elim q4 fun z => (os a z).2 rfl
  have l : Le (Fb F T σ ρ) H (Fb F T σ (ρ.set i (.cl d))) H := Le.less fl
  have rdv : RD K (Fb F T σ (ρ.set i (.cl d))) H (.ref a) d := (q2.mono l fun _ h => h).rd na
  refine ⟨⟨by rw [List.length_set]; exact R.len, fun j d' e' => ?_, fun j d' e' => ?_, fun j d' e' => ?_, fun j d' e' => ?_, fun j k b h1 h2 h3 h4 => ?_, R.keep, R.dom, R.tdom, R.tabs⟩, ⟨fun _ _ h _ _ => h, fun b h => .inl (os b h).1, fun _ h => h⟩, rdv⟩
  · by_cases hj : j = i
    · subst hj; rw [ee] at e'; cases e'
      exact ⟨_, hv, rdv⟩
    · rw [ne j hj] at e'
      obtain ⟨u, r1, r2⟩ := R.cl j d' e'
      exact ⟨u, r1, RD.mono l _ _ r2⟩
  · by_cases hj : j = i
    · subst hj; rw [ee] at e'; cases e'
    · rw [ne j hj] at e'
      obtain ⟨u, r1, r2⟩ := R.bo j d' e'
      exact ⟨u, r1, r2.mono l⟩
  · by_cases hj : j = i
    · subst hj; rw [ee] at e'; cases e'
    · rw [ne j hj] at e'
      obtain ⟨u, r1, r2, r3⟩ := R.ow j d' e'
      exact ⟨u, r1, r2.mono l (fun _ h => h), r3⟩
  · by_cases hj : j = i
    · subst hj; rw [ee] at e'; cases e'
    · rw [ne j hj] at e'
      obtain ⟨u, r0, r1, r2, r3⟩ := R.le j d' e'
      exact ⟨u, r0, r1, r2.mono l (fun _ h => h), r3⟩
  · have hj : j ≠ i := fun z => by subst z; rw [ee] at h1; cases h1
    have hk : k ≠ i := fun z => by subst z; rw [ee] at h3; cases h3
    rw [ne j hj] at h1
    rw [ne k hk] at h3
    exact R.inj j k b h1 h2 h3 h4
/-- behind an evaluation the value is kept -/
theorem Post.kp {op : Op} {v : V} {d : D} {ρ2 : Ev} (R : Rel K F T H σ ρ) (p : Post K F T H σ ρ op ρ' v H') (e : kp ρ' op = some (d, ρ2)) : Rel K F T H' σ ρ2 ∧ Ext σ ρ H σ ρ2 H' ∧ RD K (Fb F T σ ρ2) H' v d := by
  have tl : ∀ b, T b → TTf T v op b := fun b h => .inl h
  have Rl := p.rel.less tl
  cases op with
  | val d' =>
    cases e
    exact ⟨Rl, p.ext, RD.mono (Le.less fun b z => z.elim .inl fun z => z.elim (fun z => .inr (.inl (tl b z))) fun z => .inr (.inr z)) _ _ p.val⟩
  | fr d' =>
    cases e
    obtain ⟨a, e1, ta, q, nb, h0⟩ := p.val
    have hn := p.new _ a rfl e1
    refine ⟨Rl, p.ext, ?_⟩
    subst e1
    refine (q.mono (Le.less fun b z => z.elim .inl fun z => z.elim (fun z => .inr (.inl (tl b z))) fun z => .inr (.inr z)) fun _ h => h).rd fun z => ?_
    rcases z with z | z | z
    · exact nb z
    · exact R.tdom a (.inr z) hn
    · exact (p.rel.os z).2.1 ta
  | sl i =>
    have hv : σ[i]? = some (some v) := p.val
    have e : keepS i ρ' ρ'[i]? = some (d, ρ2) := e
    cases q : ρ'[i]? with
    | none => rw [q] at e; cases e
    | some s =>
      rw [q] at e
      cases s with
      | un => cases e
      | bo _ => cases e
      | le _ => cases e
      | cl d' =>
        cases e
        obtain ⟨u, q1, q2⟩ := Rl.cl i d q
        rw [hv] at q1; cases q1
        exact ⟨Rl, p.ext, q2⟩
      | ow d' =>
        cases e
        obtain ⟨r1, r2, r3⟩ := Rl.share q hv
        exact ⟨r1, p.ext.trans r2, r3⟩
end
section
variable {X : Cx} {F : Fc} {pos : Pos}
theorem ge_const {K : PySem.W.Frag} {T : Fo} {H : Hp} {σ : St} {ρ : Ev} {d : D} {v : V} {Q : VK} (R : Rel K F T H σ ρ) (h : GE K F T H σ ρ Q (mC d ρ)) (r : RD K (Fb F T σ ρ) H v d) : Q v H :=
  h v H (fin_ R (Ext.refl ..) (fun _ h => h) ⟨fun _ _ h => h, r⟩)
theorem qe_int {i : Int} {j} : QE X F (.Constant (.int i) j pos) (mC (.int i)) := pe_int.imp fun _ _ _ ⟨_, _, R, h⟩ => ge_const R h (.int i)
theorem qe_bl {b j} : QE X F (.Constant (.bool b) j pos) (mC (.bool b)) := pe_bl.imp fun _ _ _ ⟨_, _, R, h⟩ => ge_const R h (.bl b)
theorem qe_non {j} : QE X F (.Constant .none j pos) (mC .none) := pe_non.imp fun _ _ _ ⟨_, _, R, h⟩ => ge_const R h .non
theorem qe_str {x : Str} {j} : QE X F (.Constant (.str x) j pos) (mC (.str x)) := pe_str.imp fun _ _ _ ⟨_, _, R, h⟩ => ge_const R h (.str x)
theorem qe_glI {x : Str} {i : Int} (hg : Gl X x) (hm : ∃ t, X.mg x = some (.int i t)) (hd : (x == ("__debug__" : Str)) = false := by decide) : QE X F (.Name x pos) (mC (.int i)) := by
  obtain ⟨t, hm⟩ := hm
  exact (pe_glob (v := .int i) hg hm ⟨t, rfl⟩ hd).imp fun _ _ _ ⟨_, _, R, h⟩ => ge_const R h (.int i)
theorem qe_glS {x : Str} {i : Str} (hg : Gl X x) (hm : ∃ t, X.mg x = some (.str i t)) (hd : (x == ("__debug__" : Str)) = false := by decide) : QE X F (.Name x pos) (mC (.str i)) := by
  obtain ⟨t, hm⟩ := hm
  exact (pe_glob (v := .str i) hg hm ⟨t, rfl⟩ hd).imp fun _ _ _ ⟨_, _, R, h⟩ => ge_const R h (.str i)
theorem qv (i : Nat) {x : Str} (hN : X.N[i]? = some x := by rfl) (hv : Vis X.env.scope x := by first | exact Or.inl rfl | exact Or.inr (Or.inl rfl) | exact Or.inr (Or.inr rfl)) (hd : (x == ("__debug__" : Str)) = false := by decide)
    (hcd : (x == ("__classdict__" : Str)) = false := by decide) : QE X F (.Name x pos) (mV i) := by
  refine (pe_var hN hv hd hcd).imp fun σ H Q ⟨T, ρ, R, h⟩ => ?_
  have h : GE X.K F T H σ ρ Q (opt ρ (slV i ρ[i]?)) := h
  have sl : ∀ v, σ[i]? = some (some v) → Post X.K F T H σ ρ (.sl i) ρ v H := fun v e =>
    ⟨R.less (fun b z => z.elim id (fun ⟨_, e, _⟩ => (nomatch e))), Ext.refl .., e, fun _ _ e => (nomatch e)⟩
  cases q : ρ[i]? with
  | none => rw [q] at h; exact h.elim
  | some s =>
    rw [q] at h
    cases s with
    | un => exact h.elim
    | cl d =>
      obtain ⟨v, q1, q2⟩ := R.cl i d q
      exact ⟨v, q1, ge_const R h q2⟩
    | bo d =>
      obtain ⟨a, q1, q2⟩ := R.bo i d q
      exact ⟨_, q1, h _ _ (sl _ q1)⟩
    | ow d =>
      obtain ⟨a, q1, q2⟩ := R.ow i d q
      exact ⟨_, q1, h _ _ (sl _ q1)⟩
    | le d =>
      obtain ⟨a, _, q1, q2⟩ := R.le i d q
      exact ⟨_, q1, h _ _ (sl _ q1)⟩
end
def P1 (K : PySem.W.Frag) (r : V → Hp → VK → Prop) (f : D → Option Op) : Prop := ∀ (A : Fo) (H : Hp) x a op (Q : VK), (∀ b, A b → H b ≠ none) → RB K A H x a → f a = some op → (∀ v H', PR K A H H' v op → Q v H') → r x H Q
def P2 (K : PySem.W.Frag) (r : R2) (f : D → D → Option Op) : Prop := ∀ (A : Fo) (H : Hp) x y a b op (Q : VK), (∀ b, A b → H b ≠ none) → RB K A H x a → RB K A H y b → f a b = some op → (∀ v H', PR K A H H' v op → Q v H') → r x y H Q
def Pn (K : PySem.W.Frag) (r : List V → Hp → VK → Prop) (f : List D → Option Op) : Prop := ∀ (A : Fo) (H : Hp) xs as op (Q : VK), (∀ b, A b → H b ≠ none) → RBs K A H xs as → f as = some op → (∀ v H', PR K A H H' v op → Q v H') → r xs H Q
section
variable {K : PySem.W.Frag} {F : Fc} {ma mb : M Op} {σ : St} {H : Hp} {Q : VK}
theorem lift1 {r : V → Hp → VK → Prop} {f : D → Option Op} (hf : P1 K r f) (h : liftE K F (m1 f ma) σ H Q) : tUn r (liftE K F ma) σ H Q := by
  obtain ⟨T, ρ, R, h⟩ := h
  refine ⟨T, ρ, R, ?_⟩
  unfold m1 at h
  cases e : ma ρ with
  | no => rw [e] at h; exact h.elim
  | er x ρ' => rw [e] at h; exact h
  | ok x ρ1 =>
    rw [e] at h
    intro v H1 p
    have h : GE K F T H σ ρ Q (opt ρ1 ((rd ρ1 x).bind f)) := h
    cases e1 : rd ρ1 x with
    | none => rw [e1] at h; exact h.elim
    | some a =>
      rw [e1] at h
      have h : GE K F T H σ ρ Q (opt ρ1 (f a)) := h
      cases e2 : f a with
      | none => rw [e2] at h; exact h.elim
      | some op =>
        rw [e2] at h
        exact hf _ H1 v a op Q (fun _ z => p.rel.fbd z) (p.val.rb p.rel e1) e2 fun v' H' q => h v' H' (fin_ p.rel p.ext (fun _ z => .inl z) q)
theorem lift2 {r : R2} {f : D → D → Option Op} (hf : P2 K r f) (h : liftE K F (m2 f ma mb) σ H Q) : tOp r (liftE K F ma) (liftE K F mb) σ H Q := by
  obtain ⟨T, ρ, R, h⟩ := h
  refine ⟨T, ρ, R, ?_⟩
  unfold m2 at h
  cases e : ma ρ with
  | no => rw [e] at h; exact h.elim
  | er x ρ' => rw [e] at h; exact h
  | ok x ρ1 =>
    rw [e] at h
    intro v H1 p
    refine ⟨TTf T v x, ρ1, p.rel, ?_⟩
    have h : GE K F T H σ ρ Q ((mb ρ1).bind fun y ρ2 => opt ρ2 ((rd ρ2 x).bind fun a => (rd ρ2 y).bind fun b => f a b)) := h
    cases eb : mb ρ1 with
    | no => rw [eb] at h; exact h.elim
    | er z ρ' =>
      rw [eb] at h
      exact ErP.back (show ErP K F T H σ ρ z ρ' from h) p.ext fun _ z => .inl z
    | ok y ρ2 =>
      rw [eb] at h
      intro u H2 p2
      have vx : VOk K F (TTf (TTf T v x) u y) H2 σ ρ2 v x := p.val.ext p.rel p2.ext (fun _ z => .inl z) p2.tt
      have h : GE K F T H σ ρ Q (opt ρ2 ((rd ρ2 x).bind fun a => (rd ρ2 y).bind fun b => f a b)) := h
      cases e1 : rd ρ2 x with
      | none => rw [e1] at h; exact h.elim
      | some a =>
        rw [e1] at h
        have h : GE K F T H σ ρ Q (opt ρ2 ((rd ρ2 y).bind fun b => f a b)) := h
        cases e2 : rd ρ2 y with
        | none => rw [e2] at h; exact h.elim
        | some b =>
          rw [e2] at h
          have h : GE K F T H σ ρ Q (opt ρ2 (f a b)) := h
          cases e3 : f a b with
          | none => rw [e3] at h; exact h.elim
          | some op =>
            rw [e3] at h
            exact hf _ H2 v u a b op Q (fun _ z => p2.rel.fbd z) (vx.rb p2.rel e1) (p2.val.rb p2.rel e2) e3 fun v' H' q => h v' H' (fin_ p2.rel (p.ext.trans p2.ext) (fun _ z => .inl (.inl z)) q)
end
section
variable {X : Cx} {F : Fc} {a b : Expr} {ma mb : M Op} {pos : Pos}
theorem qe_op {op : Operator} {r : R2} {f : D → D → Option Op} (ho : OpR X (binaryOp op) r) (hf : P2 X.K r f) (ha : QE X F a ma) (hb : QE X F b mb) : QE X F (.BinOp a op b pos) (m2 f ma mb) := (pe_op ho ha hb).imp fun _ _ _ h => lift2 hf h
theorem qe_un {op : UnaryOp} {r : V → Hp → VK → Prop} {f : D → Option Op} (ho : UnR X (unaryOp op) r) (hf : P1 X.K r f) (ha : QE X F a ma) : QE X F (.UnaryOp op a pos) (m1 f ma) := (pe_un ho ha).imp fun _ _ _ h => lift1 hf h
theorem qe_cmp {op : CmpOp} {r : R2} {f : D → D → Option Op} (ho : OpR X (compareOp op) r) (hf : P2 X.K r f) (ha : QE X F a ma) (hb : QE X F b mb) (hm : behindInMarks op b = false) : QE X F (.Compare a [op] [b] pos) (m2 f ma mb) := (pe_cmpR ho ha hb hm).imp fun _ _ _ h => lift2 hf h
theorem qe_ix {r : R2} {f : D → D → Option Op} (hr : IxR X r) (hf : P2 X.K r f) (ha : QE X F a ma) (hb : QE X F b mb) (hs : PlainIx b) : QE X F (.Subscript a b pos) (m2 f ma mb) := (pe_ix hr ha hb hs).imp fun _ _ _ h => lift2 hf h
end
section
variable {X : Cx} {F : Fc} {e : Expr} {es : List Expr} {me : M Op} {mas : M (List Op)} {mks : M (List D)}
theorem qa_nil : QA X F [] aNil := pa_nil.imp fun σ H Q ⟨T, ρ, R, h⟩ => h T [] H (fun _ z => z) (fun _ z => .inl z) R (Ext.refl ..) .nil
theorem qa_cons (ha : QE X F e me) (hr : QA X F es mas) (hs : starEach (e :: es) X.env = (false, eval e X.env) :: starEach es X.env := by rfl) : QA X F (e :: es) (aCons me mas) := by
  refine (pa_cons ha hr hs).imp fun σ H Q ⟨T, ρ, R, h⟩ => ⟨T, ρ, R, ?_⟩
  unfold aCons at h
  cases e1 : me ρ with
  | no => rw [e1] at h; exact h.elim
  | er x ρ' => rw [e1] at h; exact h
  | ok x ρ1 =>
    rw [e1] at h
    intro v H1 p
    refine ⟨TTf T v x, ρ1, p.rel, ?_⟩
    have h : GA X.K F T H σ ρ Q ((mas ρ1).bind fun xs ρ2 => .ok (x :: xs) ρ2) := h
    cases e2 : mas ρ1 with
    | no => rw [e2] at h; exact h.elim
    | er z ρ' =>
      rw [e2] at h
      exact ErP.back (show ErP X.K F T H σ ρ z ρ' from h) p.ext fun _ z => .inl z
    | ok xs ρ2 =>
      rw [e2] at h
      intro T2 vs H2 t n R2 x2 q2
      refine h T2 (v :: vs) H2 (fun b z => t b (.inl z)) (fun b z => ?_) R2 (p.ext.trans x2) (.cons (p.val.ext p.rel x2 t n) q2)
      rcases n b z with z | z
      · exact p.tt b z
      · cases q : H b with
        | none => exact .inr rfl
        | some o => exact absurd z (p.ext.dom b (by rw [q]; exact fun z => nomatch z))
theorem liftK_ (h : PE X e (liftE X.K F me)) : QK X F e (mK me) := by
  refine h.imp fun σ H Q ⟨T, ρ, R, h⟩ => ⟨T, ρ, R, ?_⟩
  unfold mK at h
  cases e1 : me ρ with
  | no => rw [e1] at h; exact h.elim
  | er x ρ' => rw [e1] at h; exact h
  | ok x ρ1 =>
    rw [e1] at h
    intro v H1 p
    have h : GK X.K F T H σ ρ Q (optE (kp ρ1 x)) := h
    cases e2 : kp ρ1 x with
    | none => rw [e2] at h; exact h.elim
    | some q =>
      obtain ⟨d, ρ2⟩ := q
      rw [e2] at h
      obtain ⟨r1, r2, r3⟩ := p.kp R e2
      exact h v H1 r1 r2 r3
theorem qk_nil : QKs X F [] kNil := pa_nil.imp fun σ H Q ⟨T, ρ, R, h⟩ => h [] H R (Ext.refl ..) .nil
theorem qk_cons (ha : QE X F e me) (hr : QKs X F es mks) (hs : starEach (e :: es) X.env = (false, eval e X.env) :: starEach es X.env := by rfl) : QKs X F (e :: es) (kCons me mks) := by
  refine (pa_cons (liftK_ ha) hr hs).imp fun σ H Q ⟨T, ρ, R, h⟩ => ⟨T, ρ, R, ?_⟩
  unfold kCons at h
  cases e1 : mK me ρ with
  | no => rw [e1] at h; exact h.elim
  | er x ρ' => rw [e1] at h; exact h
  | ok d ρ1 =>
    rw [e1] at h
    intro v H1 R1 x1 q1
    refine ⟨T, ρ1, R1, ?_⟩
    have h : GKs X.K F T H σ ρ Q ((mks ρ1).bind fun xs ρ2 => .ok (d :: xs) ρ2) := h
    cases e2 : mks ρ1 with
    | no => rw [e2] at h; exact h.elim
    | er z ρ' =>
      rw [e2] at h
      exact ErP.back (show ErP X.K F T H σ ρ z ρ' from h) x1 fun _ z => z
    | ok ds ρ2 =>
      rw [e2] at h
      intro vs H2 R2 x2 q2
      exact h (v :: vs) H2 R2 (x1.trans x2) (.cons (RD.mono (x2.fb fun _ z => .inl z) _ _ q1) q2)
end
section
variable {X : Cx} {F : Fc} {es : List Expr} {mas : M (List Op)} {mks : M (List D)} {pos : Pos}
theorem upd_grow {H : Hp} {p : Addr} {o : HO} (h : H p = none) : ∀ b u, H b = some u → upd H p o b = some u := fun b u q => by rw [upd_ne (ne_of_none q h)]; exact q
theorem upd_le {A : Fo} {H : Hp} {p : Addr} {o : HO} (h : H p = none) : Le A H (fun b => A b ∨ b = p) (upd H p o) := ⟨fun b u q _ _ => upd_grow h b u q, fun b z => z.imp id fun z => by rw [z]; exact h, grow_dom (upd_grow h)⟩
theorem pr_lst {K : PySem.W.Frag} {A : Fo} {H : Hp} {p : Addr} {xs : List V} {ds : List D} (h : H p = none) (r : RDs K A H xs ds) : PR K A H (upd H p (.lst xs)) (.ref p) (.fr (.list ds)) :=
  ⟨upd_grow h, p, rfl, h, xs, upd_same, RDs.mono (upd_le h) _ _ r⟩
theorem pr_tup {K : PySem.W.Frag} {A : Fo} {H : Hp} {p : Addr} {xs : List V} {ds : List D} (h : H p = none) (hA : ∀ b, A b → H b ≠ none) (r : RDs K A H xs ds) : PR K A H (upd H p (.tup xs)) (.ref p) (.val (.tuple ds)) :=
  ⟨upd_grow h, .tupH (.inl upd_same) (fun z => hA p z h) (RDs.mono (Le.same (upd_grow h)) _ _ r)⟩
theorem pr_val {K : PySem.W.Frag} {A : Fo} {H : Hp} {v : V} {d : D} (r : RD K A H v d) : PR K A H H v (.val d) := ⟨fun _ _ h => h, r⟩
theorem qe_lst (h : QKs X F es mks) : QE X F (.List es pos) (mLst mks) := by
  refine (pe_lst h).imp fun σ H Q ⟨T, ρ, R, h⟩ => ⟨T, ρ, R, ?_⟩
  unfold mLst at h
  cases e1 : mks ρ with
  | no => rw [e1] at h; exact h.elim
  | er x ρ' => rw [e1] at h; exact h
  | ok ds ρ1 =>
    rw [e1] at h
    intro vs H1 R1 x1 q1
    have h : GE X.K F T H σ ρ Q (if ds.length ≤ sizeLine then .ok (.fr (.list ds)) ρ1 else .no) := h
    by_cases c : ds.length ≤ sizeLine
    · rw [if_pos c] at h
      exact ⟨by rw [q1.length]; exact c, fun p hp => h _ _ (fin_ R1 x1 (fun _ z => z) (pr_lst hp q1))⟩
    · rw [if_neg c] at h; exact h.elim
theorem qe_tup {k} (h : QKs X F es mks) : QE X F (.Tuple es k pos) (mTup mks) := by
  refine (pe_tup h).imp fun σ H Q ⟨T, ρ, R, h⟩ => ⟨T, ρ, R, ?_⟩
  unfold mTup at h
  cases e1 : mks ρ with
  | no => rw [e1] at h; exact h.elim
  | er x ρ' => rw [e1] at h; exact h
  | ok ds ρ1 =>
    rw [e1] at h
    intro vs H1 R1 x1 q1
    have h : GE X.K F T H σ ρ Q (if ds.length ≤ sizeLine then .ok (.val (.tuple ds)) ρ1 else .no) := h
    by_cases c : ds.length ≤ sizeLine
    · rw [if_pos c] at h
      exact ⟨by rw [q1.length]; exact c, fun p hp => h _ _ (fin_ R1 x1 (fun _ z => z) (pr_tup hp (fun b z => R1.fbd z) q1))⟩
    · rw [if_neg c] at h; exact h.elim
theorem liftB {r : List V → Hp → VK → Prop} {f : List D → Option Op} {K : PySem.W.Frag} {σ : St} {H : Hp} {Q : VK} (hf : Pn K r f) (h : liftE K F (mB f mas) σ H Q) : tCB r (liftA K F mas) σ H Q := by
  obtain ⟨T, ρ, R, h⟩ := h
  refine ⟨T, ρ, R, ?_⟩
  unfold mB at h
  cases e1 : mas ρ with
  | no => rw [e1] at h; exact h.elim
  | er x ρ' => rw [e1] at h; exact h
  | ok xs ρ1 =>
    rw [e1] at h
    intro T1 vs H1 t n R1 x1 q1
    have h : GE K F T H σ ρ Q (opt ρ1 ((rds ρ1 xs).bind f)) := h
    cases e2 : rds ρ1 xs with
    | none => rw [e2] at h; exact h.elim
    | some ds =>
      rw [e2] at h
      have h : GE K F T H σ ρ Q (opt ρ1 (f ds)) := h
      cases e3 : f ds with
      | none => rw [e3] at h; exact h.elim
      | some op =>
        rw [e3] at h
        exact hf _ H1 vs ds op Q (fun _ z => R1.fbd z) (q1.rbs R1 e2) e3 fun v' H' q => h v' H' (fin_ R1 x1 t q)
theorem qe_callB {x : Str} {id : String} {e : Expr} {r : List V → Hp → VK → Prop} {f : List D → Option Op} {p : Pos} (hc : CallR X (.builtin id) r) (hf : Pn X.K r f) (hg : Gl X x) (hm : X.mg x = none) (hv : bootBuiltins x = some (.builtin id)) (ha : QA X F (e :: es) mas) (hn : x ≠ "__name__" := by decide) (hdb : (x == ("__debug__" : Str)) = false := by decide)
    (he : starEach (e :: es) X.env = (false, eval e X.env) :: starEach es X.env := by rfl) (hpl : (backTo pos (starEach es X.env)).any (·.1) = false := by rfl) : QE X F (.Call (.Name x p) (e :: es) [] pos) (mB f mas) :=
  (pe_callB hc hg hm hv ha hn hdb he hpl).imp fun _ _ _ h => liftB hf h
theorem qe_callTy {x : Str} {ty : String} {e : Expr} {r : List V → Hp → VK → Prop} {f : List D → Option Op} {p : Pos} (hc : CallR X (.type ty) r) (hf : Pn X.K r f) (hg : Gl X x) (hm : X.mg x = none) (hv : bootBuiltins x = some (.type ty)) (ha : QA X F (e :: es) mas) (hn : x ≠ "__name__" := by decide) (hdb : (x == ("__debug__" : Str)) = false := by decide)
    (he : starEach (e :: es) X.env = (false, eval e X.env) :: starEach es X.env := by rfl) (hpl : (backTo pos (starEach es X.env)).any (·.1) = false := by rfl) : QE X F (.Call (.Name x p) (e :: es) [] pos) (mB f mas) :=
  (pe_callTy hc hg hm hv ha hn hdb he hpl).imp fun _ _ _ h => liftB hf h
end
end Vx
set_option maxHeartbeats 2000000
namespace Vx
open PySem PySem.Spec L2
def mChain (f g : D → D → Option Op) (ma mb mc : M Op) : M Op := fun ρ => (ma ρ).bind fun x ρ1 => (mb ρ1).bind fun y ρ2 => (opt ρ2 ((rd ρ2 x).bind fun a => (rd ρ2 y).bind fun b => (f a b).bind fun r => (rd ρ2 r).bind isB)).bind fun k ρ2 =>
  if k = true then (mc ρ2).bind fun z ρ3 => opt ρ3 ((rd ρ3 y).bind fun b => (rd ρ3 z).bind fun c => g b c) else .ok (.val (.bool false)) ρ2
section
variable {K : PySem.W.Frag} {F : Fc} {ma mb mc : M Op} {σ : St} {H : Hp} {Q : VK} {T : Fo} {ρ ρ1 ρ' : Ev} {H1 : Hp}
theorem Post.back {op : Op} {v : V} (p : Post K F T H σ ρ op ρ' v H1) : Rel K F T H1 σ ρ' := p.rel.less fun _ z => .inl z
theorem rd_const_bl {v : V} {k : Bool} {r : Op} (R : Rel K F T H σ ρ) (h : PR K (Fb F T σ ρ) H H1 v r) (e : rd ρ r = some (.bool k)) : v = .bl k ∧ Rel K F T H1 σ ρ := by
  refine ⟨?_, R.grow h.grow⟩
  cases r with
  | val d =>
    cases e
    have q := h.val
    cases q
    rfl
  | fr d =>
    cases e
    obtain ⟨a, _, _, q⟩ := h.val
    exact q.elim
  | sl i => exact h.val.elim
theorem liftTB {Q : Bool → Hp → Prop} (h : liftT K F (mT ma) σ H Q) : tB (liftE K F ma) σ H Q := by
  obtain ⟨T, ρ, R, h⟩ := h
  refine ⟨T, ρ, R, ?_⟩
  unfold mT at h
  cases e : ma ρ with
  | no => rw [e] at h; exact h.elim
  | er x ρ' => rw [e] at h; exact h
  | ok x ρ1 =>
    rw [e] at h
    intro v H1 p
    have h : GT K F T H σ ρ Q (opt ρ1 ((rd ρ1 x).bind isB)) := h
    cases e1 : rd ρ1 x with
    | none => rw [e1] at h; exact h.elim
    | some a =>
      rw [e1] at h
      have h : GT K F T H σ ρ Q (opt ρ1 (isB a)) := h
      cases a with
      | bool k => exact ⟨k, (p.val.rb p.rel e1).bl, h H1 p.back p.ext⟩
      | _ => exact h.elim
theorem liftTr {Q : Bool → Hp → Prop} (h : liftT K F (mTr ma) σ H Q) : liftE K F ma σ H fun x H' => ∃ k, TruV K x H' k ∧ Q k H' := by
  obtain ⟨T, ρ, R, h⟩ := h
  refine ⟨T, ρ, R, ?_⟩
  unfold mTr at h
  cases e : ma ρ with
  | no => rw [e] at h; exact h.elim
  | er x ρ' => rw [e] at h; exact h
  | ok x ρ1 =>
    rw [e] at h
    intro v H1 p
    have h : GT K F T H σ ρ Q (opt ρ1 ((rd ρ1 x).bind truD)) := h
    cases e1 : rd ρ1 x with
    | none => rw [e1] at h; exact h.elim
    | some a =>
      rw [e1] at h
      have h : GT K F T H σ ρ Q (opt ρ1 (truD a)) := h
      have rb := p.val.rb p.rel e1
      cases a with
      | none => cases rb.non; exact ⟨false, rfl, h H1 p.back p.ext⟩
      | bool k => cases rb.bl; exact ⟨k, rfl, h H1 p.back p.ext⟩
      | int i => cases rb.int; exact ⟨_, rfl, h H1 p.back p.ext⟩
      | str z =>
        cases rb.str
        have h : GT K F T H σ ρ Q (opt ρ1 (if z.length ≤ sizeLine then some (z.length != 0) else none)) := h
        by_cases c : z.length ≤ sizeLine
        · rw [if_pos c] at h
          refine ⟨_, ⟨c, rfl⟩, ?_⟩
          have e3 : ((z.length : Int) != 0) = (z.length != 0) := by
            cases z.length <;> rfl
          rw [e3]
          exact h H1 p.back p.ext
        · rw [if_neg c] at h; exact h.elim
      | list ds =>
        obtain ⟨a, xs, rfl, q1, q2⟩ := rb.lst
        refine ⟨_, .inl ⟨xs, q1, rfl⟩, ?_⟩
        have e3 : (!xs.isEmpty) = !ds.isEmpty := by
          have := q2.length
          cases xs <;> cases ds <;> first | rfl | (simp at this)
        rw [e3]
        exact h H1 p.back p.ext
      | tuple ds =>
        obtain ⟨a, xs, rfl, q1, q2⟩ := rb.tup
        refine ⟨_, .inr (.inl ⟨xs, q1, rfl⟩), ?_⟩
        have e3 : (!xs.isEmpty) = !ds.isEmpty := by
          have := q2.length
          cases xs <;> cases ds <;> first | rfl | (simp at this)
        rw [e3]
        exact h H1 p.back p.ext
      | dict _ => exact h.elim
theorem liftChain {r r' : R2} {f g : D → D → Option Op} (hf : P2 K r f) (hg : P2 K r' g) (h : liftE K F (mChain f g ma mb mc) σ H Q) : tChain r r' (liftE K F ma) (liftE K F mb) (liftE K F mc) σ H Q := by
  obtain ⟨T, ρ, R, h⟩ := h
  refine ⟨T, ρ, R, ?_⟩
  unfold mChain at h
  cases e : ma ρ with
  | no => rw [e] at h; exact h.elim
  | er x ρ' => rw [e] at h; exact h
  | ok x ρ1 =>
    rw [e] at h
    rw [Rs.bind_ok] at h
    intro v H1 p
    refine ⟨TTf T v x, ρ1, p.rel, ?_⟩
    cases eb : mb ρ1 with
    | no => rw [eb] at h; exact h.elim
    | er z ρ' =>
      rw [eb] at h
      exact ErP.back (show ErP K F T H σ ρ z ρ' from h) p.ext fun _ z => .inl z
    | ok y ρ2 =>
      rw [eb] at h
      rw [Rs.bind_ok] at h
      intro u H2 p2
      have vx : VOk K F (TTf (TTf T v x) u y) H2 σ ρ2 v x := p.val.ext p.rel p2.ext (fun _ z => .inl z) p2.tt
      cases e1 : rd ρ2 x with
      | none => rw [e1] at h; exact h.elim
      | some a =>
        cases e2 : rd ρ2 y with
        | none => rw [e1, e2] at h; exact h.elim
        | some b =>
          cases e3 : f a b with
          | none =>
            rw [e1, e2] at h
            have h : GE K F T H σ ρ Q ((opt ρ2 ((f a b).bind fun r => (rd ρ2 r).bind isB)).bind _) := h
            rw [e3] at h; exact h.elim
          | some op =>
            rw [e1, e2] at h
            have h : GE K F T H σ ρ Q ((opt ρ2 ((f a b).bind fun r => (rd ρ2 r).bind isB)).bind fun k ρ2 => if k = true then (mc ρ2).bind fun z ρ3 => opt ρ3 ((rd ρ3 y).bind fun b => (rd ρ3 z).bind fun c => g b c) else .ok (.val (.bool false)) ρ2) := h
            rw [e3] at h
            cases e4 : rd ρ2 op with
            | none =>
              have h : GE K F T H σ ρ Q ((opt ρ2 ((rd ρ2 op).bind isB)).bind _) := h
              rw [e4] at h; exact h.elim
            | some w =>
              have h : GE K F T H σ ρ Q ((opt ρ2 ((rd ρ2 op).bind isB)).bind fun k ρ2 => if k = true then (mc ρ2).bind fun z ρ3 => opt ρ3 ((rd ρ3 y).bind fun b => (rd ρ3 z).bind fun c => g b c) else .ok (.val (.bool false)) ρ2) := h
              rw [e4] at h
              cases w with
              | bool k =>
                have h : GE K F T H σ ρ Q (if k = true then (mc ρ2).bind fun z ρ3 => opt ρ3 ((rd ρ3 y).bind fun b => (rd ρ3 z).bind fun c => g b c) else .ok (.val (.bool false)) ρ2) := h
                refine hf _ H2 v u a b op _ (fun _ z => p2.rel.fbd z) (vx.rb p2.rel e1) (p2.val.rb p2.rel e2) e3 fun v' H3 q => ?_
                obtain ⟨ev, R3⟩ := rd_const_bl p2.rel q e4
                subst ev
                refine ⟨k, rfl, ?_⟩
                have x3 : Ext σ ρ2 H2 σ ρ2 H3 := Ext.grow q.grow
                have x03 : Ext σ ρ H σ ρ2 H3 := (p.ext.trans p2.ext).trans x3
                cases k with
                | false =>
                  rw [if_neg Bool.false_ne_true] at h ⊢
                  exact h _ H3 (fin_ R3 x03 (fun _ z => .inl (.inl z)) (pr_val (.bl false)))
                | true =>
                  rw [if_pos rfl] at h ⊢
                  refine ⟨_, ρ2, R3, ?_⟩
                  cases ec : mc ρ2 with
                  | no => rw [ec] at h; exact h.elim
                  | er z ρ' =>
                    rw [ec] at h
                    exact ErP.back (show ErP K F T H σ ρ z ρ' from h) x03 fun _ z => .inl (.inl z)
                  | ok z ρ4 =>
                    rw [ec] at h
                    rw [Rs.bind_ok] at h
                    intro w' H4 p4
                    have vy : VOk K F (TTf (TTf T v x) u y) H3 σ ρ2 u y := p2.val.ext p2.rel x3 (fun _ z => z) fun _ z => .inl z
                    have vy4 := vy.ext R3 p4.ext (fun _ z => .inl z) p4.tt
                    cases e5 : rd ρ4 y with
                    | none => rw [e5] at h; exact h.elim
                    | some b' =>
                      rw [e5] at h
                      have h : GE K F T H σ ρ Q (opt ρ4 ((rd ρ4 z).bind fun c => g b' c)) := h
                      cases e6 : rd ρ4 z with
                      | none => rw [e6] at h; exact h.elim
                      | some c =>
                        rw [e6] at h
                        have h : GE K F T H σ ρ Q (opt ρ4 (g b' c)) := h
                        cases e7 : g b' c with
                        | none => rw [e7] at h; exact h.elim
                        | some op' =>
                          rw [e7] at h
                          exact hg _ H4 u w' b' c op' Q (fun _ z => p4.rel.fbd z) (vy4.rb p4.rel e5) (p4.val.rb p4.rel e6) e7 fun v5 H5 q5 => h v5 H5 (fin_ p4.rel (x03.trans p4.ext) (fun _ z => .inl (.inl (.inl z))) q5)
              | _ => exact h.elim
end
section
variable {X : Cx} {F : Fc} {e a b c : Expr} {es rest : List Expr} {ma mb mc : M Op} {m u : M Bool} {pos : Pos}
theorem qt_val (h : QE X F e ma) (he : ∀ whole, isTrue e X.env whole = (do let v ← whole; standAt e.pos; holding [v] (truthy v)) := by intro _; rfl) : QT X F e (mT ma) := (pt_val h he).imp fun _ _ _ h => liftTB h
theorem qt_tru (h : QE X F e ma) (he : ∀ whole, isTrue e X.env whole = (do let v ← whole; standAt e.pos; holding [v] (truthy v)) := by intro _; rfl) : QT X F e (mTr ma) := (pt_truth h he).imp fun _ _ _ h => liftTr h
theorem qt_cmp {op : CmpOp} {r : R2} {f : D → D → Option Op} (ho : OpR X (compareOp op) r) (hf : P2 X.K r f) (ha : QE X F a ma) (hb : QE X F b mb) (hm : behindInMarks op b = false) : QT X F (.Compare a [op] [b] pos) (mT (m2 f ma mb)) := by
  refine (pt_cmpR ho ha hb hm).imp fun σ H Q h => ?_
  have q := liftTB h
  obtain ⟨T, ρ, R, q⟩ := q
  exact lift2 hf ⟨T, ρ, R, q⟩
theorem qe_chain {op op' : CmpOp} {r r' : R2} {f g : D → D → Option Op} (ho : OpR X (compareOp op) r) (ho' : OpR X (compareOp op') r') (hf : P2 X.K r f) (hg : P2 X.K r' g) (ha : QE X F a ma) (hb : QE X F b mb) (hc : QE X F c mc)
    (hm : lastMarks [op, op'] [b, c] = false := by with_unfolding_all rfl) : QE X F (.Compare a [op, op'] [b, c] pos) (mChain f g ma mb mc) := (pe_chain ho ho' ha hb hc hm).imp fun _ _ _ h => liftChain hf hg h
theorem qt_chain {op op' : CmpOp} {r r' : R2} {f g : D → D → Option Op} (ho : OpR X (compareOp op) r) (ho' : OpR X (compareOp op') r') (hf : P2 X.K r f) (hg : P2 X.K r' g) (ha : QE X F a ma) (hb : QE X F b mb) (hc : QE X F c mc)
    (hm : lastMarks [op, op'] [b, c] = false := by with_unfolding_all rfl) : QT X F (.Compare a [op, op'] [b, c] pos) (mT (mChain f g ma mb mc)) := by
  refine (pt_chain ho ho' ha hb hc hm).imp fun σ H Q h => ?_
  have q := liftTB h
  obtain ⟨T, ρ, R, q⟩ := q
  exact liftChain hf hg ⟨T, ρ, R, q⟩
theorem qt_not (h : QT X F a m) : QT X F (.UnaryOp .Not a pos) (mNot m) := by
  refine (pt_not h).imp fun σ H Q ⟨T, ρ, R, h⟩ => ⟨T, ρ, R, ?_⟩
  unfold mNot at h
  cases e : m ρ with
  | no => rw [e] at h; exact h.elim
  | er x ρ' => rw [e] at h; exact h
  | ok k ρ1 => rw [e] at h; exact h
theorem liftAnd {K : PySem.W.Frag} {σ : St} {H : Hp} {Q : Bool → Hp → Prop} (h : liftT K F (mAnd m u) σ H Q) : tAnd (liftT K F m) (liftT K F u) σ H Q := by
  obtain ⟨T, ρ, R, h⟩ := h
  refine ⟨T, ρ, R, ?_⟩
  unfold mAnd at h
  cases e : m ρ with
  | no => rw [e] at h; exact h.elim
  | er x ρ' => rw [e] at h; exact h
  | ok k ρ1 =>
    rw [e] at h
    rw [Rs.bind_ok] at h
    intro H1 R1 x1
    cases k with
    | false =>
      rw [if_neg Bool.false_ne_true] at h ⊢
      exact h H1 R1 x1
    | true =>
      rw [if_pos rfl] at h ⊢
      refine ⟨T, ρ1, R1, ?_⟩
      cases e2 : u ρ1 with
      | no => rw [e2] at h; exact h.elim
      | er z ρ' => rw [e2] at h; exact ErP.back (show ErP K F T H σ ρ z ρ' from h) x1 fun _ z => z
      | ok k2 ρ2 => rw [e2] at h; exact fun H2 R2 x2 => h H2 R2 (x1.trans x2)
theorem liftOr {K : PySem.W.Frag} {σ : St} {H : Hp} {Q : Bool → Hp → Prop} (h : liftT K F (mOr m u) σ H Q) : tOr (liftT K F m) (liftT K F u) σ H Q := by
  obtain ⟨T, ρ, R, h⟩ := h
  refine ⟨T, ρ, R, ?_⟩
  unfold mOr at h
  cases e : m ρ with
  | no => rw [e] at h; exact h.elim
  | er x ρ' => rw [e] at h; exact h
  | ok k ρ1 =>
    rw [e] at h
    rw [Rs.bind_ok] at h
    intro H1 R1 x1
    cases k with
    | true =>
      rw [if_pos rfl] at h ⊢
      exact h H1 R1 x1
    | false =>
      rw [if_neg Bool.false_ne_true] at h ⊢
      refine ⟨T, ρ1, R1, ?_⟩
      cases e2 : u ρ1 with
      | no => rw [e2] at h; exact h.elim
      | er z ρ' => rw [e2] at h; exact ErP.back (show ErP K F T H σ ρ z ρ' from h) x1 fun _ z => z
      | ok k2 ρ2 => rw [e2] at h; exact fun H2 R2 x2 => h H2 R2 (x1.trans x2)
theorem qw_and1 (h : QT X F a m) : QW X F (.BoolOp .And [a] pos) m := pw_and1 h
theorem qw_or1 (h : QT X F a m) : QW X F (.BoolOp .Or [a] pos) m := pw_or1 h
theorem qw_and (h : QT X F a m) (h2 : QW X F (.BoolOp .And (b :: rest) pos) u) : QW X F (.BoolOp .And (a :: b :: rest) pos) (mAnd m u) := (pw_and h h2).imp fun _ _ _ h => liftAnd h
theorem qw_or (h : QT X F a m) (h2 : QW X F (.BoolOp .Or (b :: rest) pos) u) : QW X F (.BoolOp .Or (a :: b :: rest) pos) (mOr m u) := (pw_or h h2).imp fun _ _ _ h => liftOr h
theorem qt_w (h : QW X F a m) : QT X F a m := h.pt
/-- the value of a bool -/
def mBv (ma : M Op) : M Bool := mT ma
theorem qe_one {op} (h : QE X F a ma) : QE X F (.BoolOp op [a] pos) ma := pe_one h
theorem qe_and (ha : QE X F a ma) (hb : QE X F (.BoolOp .And (b :: rest) pos) mb) : QE X F (.BoolOp .And (a :: b :: rest) pos) (mAndV (mT ma) mb) := by
  refine (pe_and ha hb).imp fun σ H Q ⟨T, ρ, R, h⟩ => ?_
  unfold mAndV at h
  have q : liftT X.K F (mT ma) σ H fun k H1 => if k = true then liftE X.K F mb σ H1 Q else Q (.bl false) H1 := by
    refine ⟨T, ρ, R, ?_⟩
    cases e : mT ma ρ with
    | no => rw [e] at h; exact h.elim
    | er x ρ' => rw [e] at h; exact h
    | ok k ρ1 =>
      rw [e] at h
      rw [Rs.bind_ok] at h
      intro H1 R1 x1
      cases k with
      | false =>
        rw [if_neg Bool.false_ne_true] at h ⊢
        exact h _ H1 (fin_ R1 x1 (fun _ z => z) (pr_val (.bl false)))
      | true =>
        rw [if_pos rfl] at h ⊢
        refine ⟨T, ρ1, R1, ?_⟩
        cases e2 : mb ρ1 with
        | no => rw [e2] at h; exact h.elim
        | er z ρ' => rw [e2] at h; exact ErP.back (show ErP X.K F T H σ ρ z ρ' from h) x1 fun _ z => z
        | ok y ρ2 =>
          rw [e2] at h
          intro v H2 p2
          exact h v H2 ⟨p2.rel, x1.trans p2.ext, p2.val, fun d a e1 e2 => by
            have := p2.new d a e1 e2
            cases q : H a with
            | none => rfl
            | some o => exact absurd this (x1.dom a (by rw [q]; exact fun z => nomatch z))⟩
  have q2 := liftTB q
  exact q2
theorem qe_or (ha : QE X F a ma) (hb : QE X F (.BoolOp .Or (b :: rest) pos) mb) : QE X F (.BoolOp .Or (a :: b :: rest) pos) (mOrV (mT ma) mb) := by
  refine (pe_or ha hb).imp fun σ H Q ⟨T, ρ, R, h⟩ => ?_
  unfold mOrV at h
  have q : liftT X.K F (mT ma) σ H fun k H1 => if k = true then Q (.bl true) H1 else liftE X.K F mb σ H1 Q := by
    refine ⟨T, ρ, R, ?_⟩
    cases e : mT ma ρ with
    | no => rw [e] at h; exact h.elim
    | er x ρ' => rw [e] at h; exact h
    | ok k ρ1 =>
      rw [e] at h
      rw [Rs.bind_ok] at h
      intro H1 R1 x1
      cases k with
      | true =>
        rw [if_pos rfl] at h ⊢
        exact h _ H1 (fin_ R1 x1 (fun _ z => z) (pr_val (.bl true)))
      | false =>
        rw [if_neg Bool.false_ne_true] at h ⊢
        refine ⟨T, ρ1, R1, ?_⟩
        cases e2 : mb ρ1 with
        | no => rw [e2] at h; exact h.elim
        | er z ρ' => rw [e2] at h; exact ErP.back (show ErP X.K F T H σ ρ z ρ' from h) x1 fun _ z => z
        | ok y ρ2 =>
          rw [e2] at h
          intro v H2 p2
          exact h v H2 ⟨p2.rel, x1.trans p2.ext, p2.val, fun d a e1 e2 => by
            have := p2.new d a e1 e2
            cases q : H a with
            | none => rfl
            | some o => exact absurd this (x1.dom a (by rw [q]; exact fun z => nomatch z))⟩
  exact liftTB q
theorem qe_not (ha : QE X F a ma) : QE X F (.UnaryOp .Not a pos) (mNotV (mT ma)) := by
  refine (pe_not ha).imp fun σ H Q ⟨T, ρ, R, h⟩ => ?_
  unfold mNotV at h
  have q : liftT X.K F (mT ma) σ H fun k H1 => Q (.bl (!k)) H1 := by
    refine ⟨T, ρ, R, ?_⟩
    cases e : mT ma ρ with
    | no => rw [e] at h; exact h.elim
    | er x ρ' => rw [e] at h; exact h
    | ok k ρ1 =>
      rw [e] at h
      exact fun H1 R1 x1 => h _ H1 (fin_ R1 x1 (fun _ z => z) (pr_val (.bl _)))
  exact liftTB q
theorem qe_if (hc : QT X F c m) (ha : QE X F a ma) (hb : QE X F b mb) : QE X F (.IfExp c a b pos) (mIf m ma mb) := by
  refine (pe_ifExp hc ha hb).imp fun σ H Q ⟨T, ρ, R, h⟩ => ⟨T, ρ, R, ?_⟩
  unfold mIf at h
  cases e : m ρ with
  | no => rw [e] at h; exact h.elim
  | er x ρ' => rw [e] at h; exact h
  | ok k ρ1 =>
    rw [e] at h
    rw [Rs.bind_ok] at h
    intro H1 R1 x1
    have go : ∀ mx : M Op, GE X.K F T H σ ρ Q (mx ρ1) → liftE X.K F mx σ H1 Q := fun mx h => by
      refine ⟨T, ρ1, R1, ?_⟩
      cases e2 : mx ρ1 with
      | no => rw [e2] at h; exact h.elim
      | er z ρ' => rw [e2] at h; exact ErP.back (show ErP X.K F T H σ ρ z ρ' from h) x1 fun _ z => z
      | ok y ρ2 =>
        rw [e2] at h
        intro v H2 p2
        exact h v H2 ⟨p2.rel, x1.trans p2.ext, p2.val, fun d a e1 e2 => by
          have := p2.new d a e1 e2
          cases q : H a with
          | none => rfl
          | some o => exact absurd this (x1.dom a (by rw [q]; exact fun z => nomatch z))⟩
    cases k with
    | false =>
      rw [if_neg Bool.false_ne_true] at h ⊢
      exact go _ h
    | true =>
      rw [if_pos rfl] at h ⊢
      exact go _ h
end
end Vx
set_option maxHeartbeats 2000000
namespace Vx
open PySem PySem.Spec L2
section
variable {K : PySem.W.Frag} {F : Fc} {T T' : Fo} {H H' : Hp} {σ : St} {ρ ρ' : Ev}
theorem free_len {ρ : Ev} {i : Nat} (h : free ρ[i]? = true) : i < ρ.length := by
  cases q : ρ[i]? with
  | none => rw [q] at h; cases h
  | some s => exact (List.getElem?_eq_some_iff.mp q).1
theorem free_le {ρ : Ev} {i : Nat} (h : free ρ[i]? = true) (d : D) : ρ[i]? ≠ some (.le d) := fun e => by rw [e] at h; cases h
/-- own lists behind a store of what is none -/
theorem os_set {i : Nat} {s : Sl} {o : Option V} (hs : OwnS (some s) = false) (hi : i < ρ.length) {b : Addr} (h : OS (σ.set i o) (ρ.set i s) b) : OS σ ρ b ∧ ∃ j : Nat, j ≠ i ∧ OwnS ρ[j]? = true ∧ σ[j]? = some (some (V.ref b)) := by
  obtain ⟨j, h1, h2⟩ := h
  by_cases hj : j = i
  · subst hj
    rw [List.getElem?_set_self hi] at h1
    rw [hs] at h1; cases h1
  · rw [List.getElem?_set_ne (Ne.symm hj)] at h1 h2
    exact ⟨⟨j, h1, h2⟩, j, hj, h1, h2⟩
/-- a slot gets data -/
theorem Rel.setCl (R : Rel K F T H σ ρ) {i : Nat} {v : V} {d : D} (hf : free ρ[i]? = true) (r : RD K (Fb F T σ ρ) H v d) :
    Rel K F T H (σ.set i (some v)) (ρ.set i (.cl d)) ∧ Ext σ ρ H (σ.set i (some v)) (ρ.set i (.cl d)) H := by
  have hi := free_len hf
  have hσ : i < σ.length := by rw [← R.len]; exact hi
  have os := fun b (h : OS (σ.set i (some v)) (ρ.set i (.cl d)) b) => os_set (σ := σ) (s := .cl d) rfl hi h
  have fl : ∀ b, Fb F T (σ.set i (some v)) (ρ.set i (.cl d)) b → Fb F T σ ρ b := fun b z => z.elim .inl fun z => z.elim (fun z => .inr (.inl z)) fun z => .inr (.inr (os b z).1)
  have l : Le (Fb F T σ ρ) H (Fb F T (σ.set i (some v)) (ρ.set i (.cl d))) H := Le.less fl
  have e1 : ∀ j : Nat, j ≠ i → (ρ.set i (.cl d))[j]? = ρ[j]? := fun j h => List.getElem?_set_ne (Ne.symm h)
  have e2 : ∀ j : Nat, j ≠ i → (σ.set i (some v))[j]? = σ[j]? := fun j h => List.getElem?_set_ne (Ne.symm h)
  have s1 : (ρ.set i (.cl d))[i]? = some (.cl d) := List.getElem?_set_self hi
  have s2 : (σ.set i (some v))[i]? = some (some v) := List.getElem?_set_self hσ
  refine ⟨⟨by rw [List.length_set, List.length_set]; exact R.len, fun j d' e => ?_, fun j d' e => ?_, fun j d' e => ?_, fun j d' e => ?_, fun j k b h1 h2 h3 h4 => ?_, R.keep, R.dom, R.tdom, R.tabs⟩, ⟨fun _ _ h _ _ => h, fun b h => .inl (os b h).1, fun _ h => h⟩⟩
  · by_cases hj : j = i
    · subst hj; rw [s1] at e; cases e
      exact ⟨v, s2, RD.mono l _ _ r⟩
    · rw [e1 j hj] at e; rw [e2 j hj]
      obtain ⟨u, q1, q2⟩ := R.cl j d' e
      exact ⟨u, q1, RD.mono l _ _ q2⟩
  · by_cases hj : j = i
    · subst hj; rw [s1] at e; cases e
    · rw [e1 j hj] at e; rw [e2 j hj]
      obtain ⟨u, q1, q2⟩ := R.bo j d' e
      exact ⟨u, q1, q2.mono l⟩
  · by_cases hj : j = i
    · subst hj; rw [s1] at e; cases e
    · rw [e1 j hj] at e; rw [e2 j hj]
      obtain ⟨u, q1, q2, q3⟩ := R.ow j d' e
      exact ⟨u, q1, q2.mono l (fun _ h => h), q3⟩
  · by_cases hj : j = i
    · subst hj; rw [s1] at e; cases e
    · rw [e1 j hj] at e; rw [e2 j hj]
      obtain ⟨u, q0, q1, q2, q3⟩ := R.le j d' e
      exact ⟨u, q0, q1, q2.mono l (fun _ h => h), q3⟩
  · have hj : j ≠ i := fun z => by subst z; rw [s1] at h1; cases h1
    have hk : k ≠ i := fun z => by subst z; rw [s1] at h3; cases h3
    rw [e1 j hj] at h1; rw [e2 j hj] at h2
    rw [e1 k hk] at h3; rw [e2 k hk] at h4
    exact R.inj j k b h1 h2 h3 h4
/-- a slot gets a new list -/
theorem Rel.setOw {i : Nat} {v : V} {d : D} (R : Rel K F T' H σ ρ) (hf : free ρ[i]? = true) {a : Addr} (ev : v = .ref a) (ht : ∀ b, T' b ↔ T b ∨ b = a) (nt : ¬ T a) (q : OB K (Fb F T' σ ρ) H a d) (nb : ¬ F.B a) (h0 : F.H0 a = none) :
    Rel K F T H (σ.set i (some v)) (ρ.set i (.ow d)) ∧ ∀ b, OS (σ.set i (some v)) (ρ.set i (.ow d)) b → OS σ ρ b ∨ b = a := by
  subst ev
  have hi := free_len hf
  have hσ : i < σ.length := by rw [← R.len]; exact hi
  have e1 : ∀ j : Nat, j ≠ i → (ρ.set i (.ow d))[j]? = ρ[j]? := fun j h => List.getElem?_set_ne (Ne.symm h)
  have e2 : ∀ j : Nat, j ≠ i → (σ.set i (some (.ref a)))[j]? = σ[j]? := fun j h => List.getElem?_set_ne (Ne.symm h)
  have s1 : (ρ.set i (.ow d))[i]? = some (.ow d) := List.getElem?_set_self hi
  have s2 : (σ.set i (some (V.ref a)))[i]? = some (some (V.ref a)) := List.getElem?_set_self hσ
  have os : ∀ b, OS (σ.set i (some (.ref a))) (ρ.set i (.ow d)) b → OS σ ρ b ∨ b = a := by
    rintro b ⟨j, h1, h2⟩
    by_cases hj : j = i
    · subst hj; rw [s2] at h2; cases h2; exact .inr rfl
    · rw [e1 j hj] at h1; rw [e2 j hj] at h2
      exact .inl ⟨j, h1, h2⟩
  have na : ¬ OS σ ρ a := fun z => (R.os z).2.1 ((ht a).mpr (.inr rfl))
  have fl : ∀ b, Fb F T (σ.set i (some (.ref a))) (ρ.set i (.ow d)) b → Fb F T' σ ρ b := fun b z => z.elim .inl fun z => z.elim (fun z => .inr (.inl ((ht b).mpr (.inl z)))) fun z => (os b z).elim (fun z => .inr (.inr z)) fun z => .inr (.inl ((ht b).mpr (.inr z)))
  have l : Le (Fb F T' σ ρ) H (Fb F T (σ.set i (some (.ref a))) (ρ.set i (.ow d))) H := Le.less fl
  refine ⟨⟨by rw [List.length_set, List.length_set]; exact R.len, fun j d' e => ?_, fun j d' e => ?_, fun j d' e => ?_, fun j d' e => ?_, fun j k b h1 h2 h3 h4 => ?_, R.keep, R.dom, fun b h => R.tdom b (h.imp id fun z => (ht b).mpr (.inl z)), R.tabs⟩, os⟩
  · by_cases hj : j = i
    · subst hj; rw [s1] at e; cases e
    · rw [e1 j hj] at e; rw [e2 j hj]
      obtain ⟨u, q1, q2⟩ := R.cl j d' e
      exact ⟨u, q1, RD.mono l _ _ q2⟩
  · by_cases hj : j = i
    · subst hj; rw [s1] at e; cases e
    · rw [e1 j hj] at e; rw [e2 j hj]
      obtain ⟨u, q1, q2⟩ := R.bo j d' e
      exact ⟨u, q1, q2.mono l⟩
  · by_cases hj : j = i
    · subst hj; rw [s1] at e; cases e
      exact ⟨a, s2, q.mono l (fun _ h => h), nb, nt, h0⟩
    · rw [e1 j hj] at e; rw [e2 j hj]
      obtain ⟨u, q1, q2, q3, q4, q5⟩ := R.ow j d' e
      exact ⟨u, q1, q2.mono l (fun _ h => h), q3, fun z => q4 ((ht u).mpr (.inl z)), q5⟩
  · by_cases hj : j = i
    · subst hj; rw [s1] at e; cases e
    · rw [e1 j hj] at e; rw [e2 j hj]
      obtain ⟨u, q0, q1, q2, q3, q4⟩ := R.le j d' e
      exact ⟨u, q0, q1, q2.mono l (fun _ h => h), q3, fun z => q4 ((ht u).mpr (.inl z))⟩
  · by_cases hj : j = i
    · by_cases hk : k = i
      · rw [hj, hk]
      · subst hj
        rw [s2] at h2; cases h2
        rw [e1 k hk] at h3; rw [e2 k hk] at h4
        exact absurd ⟨k, h3, h4⟩ na
    · rw [e1 j hj] at h1; rw [e2 j hj] at h2
      by_cases hk : k = i
      · subst hk
        rw [s2] at h4; cases h4
        exact absurd ⟨j, h1, h2⟩ na
      · rw [e1 k hk] at h3; rw [e2 k hk] at h4
        exact R.inj j k b h1 h2 h3 h4
/-- a value is stored -/
theorem Post.store {op : Op} {v : V} {i : Nat} {ρ2 : Ev} (R : Rel K F T H σ ρ) (p : Post K F T H σ ρ op ρ' v H') (e : stO i ρ' op = some ρ2) : Rel K F T H' (σ.set i (some v)) ρ2 ∧ Ext σ ρ H (σ.set i (some v)) ρ2 H' := by
  cases op with
  | val d =>
    have e : (if free ρ'[i]? then some (ρ'.set i (.cl d)) else none) = some ρ2 := e
    by_cases c : free ρ'[i]? = true
    · rw [if_pos c] at e; cases e
      have h := p.kp R (show Vx.kp ρ' (.val d) = some (d, ρ') from rfl)
      obtain ⟨r1, r2⟩ := h.1.setCl c h.2.2
      exact ⟨r1, p.ext.trans r2⟩
    · rw [if_neg c] at e; cases e
  | fr d =>
    have e : (if free ρ'[i]? then some (ρ'.set i (.ow d)) else none) = some ρ2 := e
    by_cases c : free ρ'[i]? = true
    · rw [if_pos c] at e; cases e
      obtain ⟨a, ev, ta, q, nb, h0⟩ := p.val
      have hn := p.new d a rfl ev
      have ht : ∀ b, TTf T v (.fr d) b ↔ T b ∨ b = a := fun b => ⟨fun z => z.imp id fun ⟨_, _, z⟩ => by rw [ev] at z; cases z; rfl, fun z => z.imp id fun z => ⟨d, rfl, by rw [z]; exact ev⟩⟩
      obtain ⟨r1, r2⟩ := p.rel.setOw c ev ht (fun z => R.tdom a (.inr z) hn) q nb h0
      refine ⟨r1, p.ext.kept, fun b z => ?_, p.ext.dom⟩
      rcases r2 b z with z | z
      · exact p.ext.os b z
      · rw [z]; exact .inr hn
    · rw [if_neg c] at e; cases e
  | sl j =>
    have e : (if free ρ'[i]? then (keepS j ρ' ρ'[j]?).bind fun p => some (p.2.set i (.cl p.1)) else none) = some ρ2 := e
    by_cases c : free ρ'[i]? = true
    · rw [if_pos c] at e
      cases q : keepS j ρ' ρ'[j]? with
      | none => rw [q] at e; cases e
      | some w =>
        obtain ⟨d, ρ3⟩ := w
        rw [q] at e; cases e
        have h := p.kp R (show Vx.kp ρ' (.sl j) = some (d, ρ3) from q)
        have c3 : free ρ3[i]? = true := by
          cases q2 : ρ'[j]? with
          | none => rw [q2] at q; cases q
          | some s =>
            rw [q2] at q
            cases s with
            | un => cases q
            | bo _ => cases q
            | le _ => cases q
            | cl _ => cases q; exact c
            | ow d' =>
              cases q
              by_cases hij : j = i
              · subst hij
                rw [List.getElem?_set_self (free_len c)]; rfl
              · rw [List.getElem?_set_ne hij]; exact c
        obtain ⟨r1, r2⟩ := h.1.setCl c3 h.2.2
        exact ⟨r1, h.2.1.trans r2⟩
    · rw [if_neg c] at e; cases e
end
section
variable (K : PySem.W.Frag) (F : Fc)
def ErS (H : Hp) (σ : St) (ρ : Ev) (x : Er) (ρ' : Ev) : Prop := ∀ c dd σ' H', Rel K F noT H' σ' ρ' → Ext σ ρ H σ' ρ' H' → ErOk F.cn x c dd H' → F.W c dd σ' H'
structure PostR (H : Hp) (σ : St) (ρ : Ev) (op : Op) (σ' : St) (ρ' : Ev) (v : V) (H' : Hp) : Prop where
  rel : Rel K F (TTf noT v op) H' σ' ρ'
  ext : Ext σ ρ H σ' ρ' H'
  val : VOk K F (TTf noT v op) H' σ' ρ' v op
  new : ∀ d a, op = .fr d → v = .ref a → H a = none
def GS (H : Hp) (σ : St) (ρ : Ev) (D : Ends) : Rs Fl → Prop
  | .ok .nx ρ' => ∀ σ' H', Rel K F noT H' σ' ρ' → Ext σ ρ H σ' ρ' H' → D.nx σ' H'
  | .ok .bk ρ' => ∀ σ' H', Rel K F noT H' σ' ρ' → Ext σ ρ H σ' ρ' H' → D.bk σ' H'
  | .ok .ct ρ' => ∀ σ' H', Rel K F noT H' σ' ρ' → Ext σ ρ H σ' ρ' H' → D.ct σ' H'
  | .ok (.rt op) ρ' => ∀ σ' v H', PostR K F H σ ρ op σ' ρ' v H' → D.rt v H'
  | .er x ρ' => ErS K F H σ ρ x ρ'
  | .no => False
def liftS (m : M Fl) : TS := fun D σ H => ∃ ρ, Rel K F noT H σ ρ ∧ GS K F H σ ρ D (m ρ)
end
abbrev QS (X : Cx) (F : Fc) (st : Stmt) (m : M Fl) : Prop := PS X st (liftS X.K F m)
abbrev QSs (X : Cx) (F : Fc) (st : List Stmt) (m : M Fl) : Prop := PSs X st (liftS X.K F m)
section
variable {K : PySem.W.Frag} {F : Fc} {H H1 : Hp} {σ σ1 : St} {ρ ρ1 ρ' : Ev}
/-- an error in an expression -/
theorem ErS.toP {x : Er} (h : ErS K F H σ ρ x ρ') : ErP K F noT H σ ρ x ρ' := fun c dd H' R e k => h c dd σ H' R e k
theorem ErS.back {x : Er} (h : ErS K F H σ ρ x ρ') (e : Ext σ ρ H σ1 ρ1 H1) : ErS K F H1 σ1 ρ1 x ρ' := fun c dd σ' H' R e' k => h c dd σ' H' R (e.trans e') k
theorem PostR.back {op : Op} {σ' : St} {v : V} {H' : Hp} (p : PostR K F H1 σ1 ρ1 op σ' ρ' v H') (e : Ext σ ρ H σ1 ρ1 H1) : PostR K F H σ ρ op σ' ρ' v H' :=
  ⟨p.rel, e.trans p.ext, p.val, fun d a e1 e2 => by
    have := p.new d a e1 e2
    cases q : H a with
    | none => rfl
    | some o => exact absurd this (e.dom a (by rw [q]; exact fun z => nomatch z))⟩
theorem GS.back {D : Ends} {r : Rs Fl} (h : GS K F H σ ρ D r) (e : Ext σ ρ H σ1 ρ1 H1) : GS K F H1 σ1 ρ1 D r := by
  cases r with
  | no => exact h
  | er x ρ' => exact ErS.back h e
  | ok f ρ' =>
    cases f with
    | nx => exact fun σ' H' R e' => h σ' H' R (e.trans e')
    | bk => exact fun σ' H' R e' => h σ' H' R (e.trans e')
    | ct => exact fun σ' H' R e' => h σ' H' R (e.trans e')
    | rt op => exact fun σ' v H' p => h σ' v H' (p.back e)
/-- the three ways on, the return: another end -/
theorem GS.ends {D D' : Ends} {r : Rs Fl} (h : GS K F H σ ρ D r) (h1 : ∀ ρ', r = .ok .nx ρ' → (∀ σ' H', Rel K F noT H' σ' ρ' → Ext σ ρ H σ' ρ' H' → D.nx σ' H') → ∀ σ' H', Rel K F noT H' σ' ρ' → Ext σ ρ H σ' ρ' H' → D'.nx σ' H')
    (h2 : ∀ σ' H', D.bk σ' H' → D'.bk σ' H') (h3 : ∀ σ' H', D.ct σ' H' → D'.ct σ' H') (h4 : ∀ v H', D.rt v H' → D'.rt v H') : GS K F H σ ρ D' r := by
  cases r with
  | no => exact h
  | er x ρ' => exact h
  | ok f ρ' =>
    cases f with
    | nx => exact h1 ρ' rfl h
    | bk => exact fun σ' H' R e' => h2 _ _ (h σ' H' R e')
    | ct => exact fun σ' H' R e' => h3 _ _ (h σ' H' R e')
    | rt op => exact fun σ' v H' p => h4 _ _ (h σ' v H' p)
end
section
variable {X : Cx} {F : Fc} {st : Stmt} {rest : List Stmt} {m u : M Fl} {e : Expr} {me : M Op} {pos : Pos}
theorem qss_nil : QSs X F [] sNx := pss_nil.imp fun D σ H ⟨ρ, R, h⟩ => h σ H R (Ext.refl ..)
theorem liftSeq {K : PySem.W.Frag} {D : Ends} {σ : St} {H : Hp} (h : liftS K F (sSeq m u) D σ H) : tSeq (liftS K F m) (liftS K F u) D σ H := by
  obtain ⟨ρ, R, h⟩ := h
  refine ⟨ρ, R, ?_⟩
  unfold sSeq at h
  cases e1 : m ρ with
  | no => rw [e1] at h; exact h.elim
  | er x ρ' => rw [e1] at h; exact h
  | ok f ρ1 =>
    rw [e1] at h
    rw [Rs.bind_ok] at h
    cases f with
    | nx => exact fun σ1 H1 R1 x1 => ⟨ρ1, R1, h.back x1⟩
    | bk => exact h
    | ct => exact h
    | rt op => exact h
theorem qss_cons (h1 : QS X F st m) (h2 : QSs X F rest u) : QSs X F (st :: rest) (sSeq m u) := (pss_cons h1 h2).imp fun _ _ _ h => liftSeq h
theorem qss_one (h1 : QS X F st m) : QSs X F [st] m := pss_one h1
theorem qs_pass : QS X F (.Pass pos) sNx := ps_pass.imp fun D σ H ⟨ρ, R, h⟩ => h σ H R (Ext.refl ..)
theorem qs_break : QS X F (.Break pos) sBk := ps_break.imp fun D σ H ⟨ρ, R, h⟩ => h σ H R (Ext.refl ..)
theorem qs_continue : QS X F (.Continue pos) sCt := ps_continue.imp fun D σ H ⟨ρ, R, h⟩ => h σ H R (Ext.refl ..)
theorem qs_no : QS X F st sNo := ps_never.imp fun D σ H ⟨ρ, R, h⟩ => h
theorem qss_no : QSs X F rest sNo := pss_never.imp fun D σ H ⟨ρ, R, h⟩ => h
theorem qs_expr (he : QE X F e me) (hs : swapsWith e none pos.line X.env = pure false := by rfl) : QS X F (.Expr e pos) (sDrop me) := by
  refine (ps_expr he hs).imp fun D σ H ⟨ρ, R, h⟩ => ⟨noT, ρ, R, ?_⟩
  unfold sDrop at h
  cases e1 : me ρ with
  | no => rw [e1] at h; exact h.elim
  | er x ρ' => rw [e1] at h; exact ErS.toP h
  | ok x ρ1 =>
    rw [e1] at h
    exact fun v H1 p => h σ H1 p.back p.ext
theorem qs_ret (he : QE X F e me) : QS X F (.Return (some e) pos) (sRet me) := by
  refine (ps_ret he).imp fun D σ H ⟨ρ, R, h⟩ => ⟨noT, ρ, R, ?_⟩
  unfold sRet at h
  cases e1 : me ρ with
  | no => rw [e1] at h; exact h.elim
  | er x ρ' => rw [e1] at h; exact ErS.toP h
  | ok x ρ1 =>
    rw [e1] at h
    exact fun v H1 p => h σ v H1 ⟨p.rel, p.ext, p.val, p.new⟩
theorem qs_retN : QS X F (.Return none pos) sRetN := by
  refine ps_retN.imp fun D σ H ⟨ρ, R, h⟩ => ?_
  have p : Post X.K F noT H σ ρ (.val .none) ρ .non H := fin_ R (Ext.refl ..) (fun _ z => z) (pr_val .non)
  exact h σ .non H ⟨p.rel, p.ext, p.val, p.new⟩
theorem qs_if {c : Expr} {a b : List Stmt} {mc : M Bool} (hc : QT X F c mc) (ha : QSs X F a m) (hb : QSs X F b u) : QS X F (.If c a b pos) (sIf mc m u) := by
  refine (ps_if hc ha hb).imp fun D σ H ⟨ρ, R, h⟩ => ⟨noT, ρ, R, ?_⟩
  have h : GS X.K F H σ ρ D ((mc ρ).bind fun k ρ1 => if k = true then m ρ1 else u ρ1) := h
  cases e1 : mc ρ with
  | no => rw [e1] at h; exact h.elim
  | er x ρ' => rw [e1] at h; exact ErS.toP h
  | ok k ρ1 =>
    rw [e1] at h
    rw [Rs.bind_ok] at h
    intro H1 R1 x1
    cases k with
    | false =>
      rw [if_neg Bool.false_ne_true] at h ⊢
      exact ⟨ρ1, R1, h.back x1⟩
    | true =>
      rw [if_pos rfl] at h ⊢
      exact ⟨ρ1, R1, h.back x1⟩
theorem liftSet {K : PySem.W.Frag} {i : Nat} {D : Ends} {σ : St} {H : Hp} (h : liftS K F (sSet i me) D σ H) : tAsg (liftE K F me) (gName i) D σ H := by
  obtain ⟨ρ, R, h⟩ := h
  refine ⟨noT, ρ, R, ?_⟩
  unfold sSet at h
  cases e1 : me ρ with
  | no => rw [e1] at h; exact h.elim
  | er x ρ' => rw [e1] at h; exact ErS.toP h
  | ok x ρ1 =>
    rw [e1] at h
    intro v H1 p
    have h : GS K F H σ ρ D (oNx (stO i ρ1 x)) := h
    cases e2 : stO i ρ1 x with
    | none => rw [e2] at h; exact h.elim
    | some ρ2 =>
      rw [e2] at h
      obtain ⟨r1, r2⟩ := p.store R e2
      exact h _ H1 r1 r2
theorem qs_set {i : Nat} {x : Str} {pos' : Pos} (hN : X.N.Nodup) (hi : X.N[i]? = some x) (hx : Loc X.env.scope x) (he : QE X F e me) (hs : swapsWith e (some (.Name x pos')) pos.line X.env = pure false := by rfl) (hf : X.fn x = true ∨ X.env.scope.names.lookup x = some .local := by first | exact .inl rfl | exact .inr rfl | assumption) :
    QS X F (.Assign [.Name x pos'] e pos) (sSet i me) := (ps_set hN hi hx he hs hf).imp fun _ _ _ h => liftSet h
end
/-- only the slots ws were stored to -/
def Wr (ws : List Nat) (σ σ' : St) : Prop := σ'.length = σ.length ∧ ∀ j : Nat, j ∉ ws → σ'[j]? = σ[j]?
/-- what is wanted of a target: data goes to names -/
def liftG (K : PySem.W.Frag) (F : Fc) (t : Tg) (ws : List Nat) : TG := fun v σ H Q => ∃ T ρ d, Rel K F T H σ ρ ∧ RD K (Fb F T σ ρ) H v d ∧ ∃ ρ', t d ρ = some ρ' ∧ ∀ σ' H', Rel K F T H' σ' ρ' → Ext σ ρ H σ' ρ' H' → Wr ws σ σ' → Q σ' H'
def liftGs (K : PySem.W.Frag) (F : Fc) (t : Tgs) (ws : List Nat) : TGs := fun vs σ H Q => ∃ T ρ ds, Rel K F T H σ ρ ∧ RDs K (Fb F T σ ρ) H vs ds ∧ ∃ ρ', t ds ρ = some ρ' ∧ ∀ σ' H', Rel K F T H' σ' ρ' → Ext σ ρ H σ' ρ' H' → Wr ws σ σ' → Q σ' H'
abbrev QG (X : Cx) (F : Fc) (e : Expr) (t : Tg) (ws : List Nat) : Prop := PG X e (liftG X.K F t ws)
abbrev QGs (X : Cx) (F : Fc) (es : List Expr) (t : Tgs) (ws : List Nat) : Prop := PGs X es (liftGs X.K F t ws)
section
variable {X : Cx} {F : Fc} {pos : Pos} {e : Expr} {es : List Expr} {t : Tg} {u : Tgs} {ws ws' : List Nat}
theorem qg_name {i : Nat} {x : Str} (hN : X.N.Nodup) (hi : X.N[i]? = some x) (hx : Loc X.env.scope x) (hf : X.fn x = true ∨ X.env.scope.names.lookup x = some .local := by first | exact .inl rfl | exact .inr rfl | assumption) : QG X F (.Name x pos) (tName i) [i] := by
  refine (pg_name hN hi hx hf).imp fun v σ H Q ⟨T, ρ, d, R, r, ρ', e, h⟩ => ?_
  unfold tName at e
  by_cases c : free ρ[i]? = true
  · rw [if_pos c] at e; cases e
    obtain ⟨r1, r2⟩ := R.setCl c r
    exact h _ H r1 r2 ⟨List.length_set, fun j hj => List.getElem?_set_ne fun z => hj (by rw [z]; exact List.mem_singleton.mpr rfl)⟩
  · rw [if_neg c] at e; cases e
theorem qgs_nil : QGs X F [] tsNil [] := by
  refine pgs_nil.imp fun vs σ H Q ⟨T, ρ, ds, R, r, ρ', e, h⟩ => ?_
  cases ds with
  | nil =>
    cases r
    cases e
    exact ⟨rfl, h σ H R (Ext.refl ..) ⟨rfl, fun _ _ => rfl⟩⟩
  | cons d ds => cases e
theorem qgs_cons (h1 : QG X F e t ws) (h2 : QGs X F es u ws') (hs : (assignEach (e :: es) X.env).map (·.2) = assign e X.env :: (assignEach es X.env).map (·.2) := by rfl) : QGs X F (e :: es) (tsCons t u) (ws ++ ws') := by
  refine (pgs_cons h1 h2 hs).imp fun vs σ H Q ⟨T, ρ, ds, R, r, ρ', e, h⟩ => ?_
  cases ds with
  | nil => cases e
  | cons d ds =>
    cases r with
    | cons r1 r2 =>
      have e : (t d ρ).bind (u ds) = some ρ' := e
      cases e1 : t d ρ with
      | none => rw [e1] at e; cases e
      | some ρ1 =>
        rw [e1] at e
        refine ⟨_, _, rfl, T, ρ, d, R, r1, ρ1, e1, fun σ1 H1 R1 x1 w1 => ?_⟩
        refine ⟨T, ρ1, ds, R1, RDs.mono (x1.fb fun _ z => .inl z) _ _ r2, ρ', e, fun σ2 H2 R2 x2 w2 => h σ2 H2 R2 (x1.trans x2) ⟨w2.1.trans w1.1, fun j hj => ?_⟩⟩
        rw [w2.2 j fun z => hj (List.mem_append_right _ z), w1.2 j fun z => hj (List.mem_append_left _ z)]
theorem qg_tup {k : Nat} {n : Nat} (hc : X.calm = true) (h : QGs X F es u ws) (hl : ∀ ds ρ ρ', u ds ρ = some ρ' → ds.length = n)
    (hn : (assignEach es X.env).length = n := by rfl) (hst : (assignEach es X.env).findIdx? (·.1) = none := by rfl) : QG X F (.Tuple es k pos) (tTup u) ws := by
  refine (pg_tup hc h hn hst).imp fun v σ H Q ⟨T, ρ, d, R, r, ρ', e, h⟩ => ?_
  cases d with
  | tuple ds =>
    obtain ⟨a, xs, q1, q2, q3⟩ := (RB.rd r).tup
    exact ⟨a, xs, q1, q2, by rw [q3.length]; exact hl ds ρ ρ' e, T, ρ, ds, R, q3, ρ', e, h⟩
  | _ => cases e
theorem ts_len0 : ∀ ds (ρ ρ' : Ev), tsNil ds ρ = some ρ' → ds.length = 0 := fun ds ρ ρ' e => by
  cases ds with
  | nil => rfl
  | cons d ds => cases e
theorem ts_lenS {n : Nat} (h : ∀ ds (ρ ρ' : Ev), u ds ρ = some ρ' → ds.length = n) : ∀ ds (ρ ρ' : Ev), tsCons t u ds ρ = some ρ' → ds.length = n + 1 := fun ds ρ ρ' e => by
  cases ds with
  | nil => cases e
  | cons d ds =>
    have e : (t d ρ).bind (u ds) = some ρ' := e
    cases e1 : t d ρ with
    | none => rw [e1] at e; cases e
    | some ρ1 =>
      rw [e1] at e
      exact congrArg (· + 1) (h ds ρ1 ρ' e)
/-- target = value, the value is kept -/
theorem qs_asg {tg : Expr} {me : M Op} (he : QE X F e me) (hg : QG X F tg t ws) (hs : swapsWithSole [tg] e pos.line X.env = pure false := by rfl) (hw : swappedStores [tg] e X.env = pure none := by rfl)
    (h1 : (assignEach [tg] X.env).map (·.2) = [assign tg X.env] := by rfl) : QS X F (.Assign [tg] e pos) (sTg t me) := by
  refine (ps_asg (liftK_ he) hg hs hw h1).imp fun D σ H ⟨ρ, R, h⟩ => ⟨noT, ρ, R, ?_⟩
  unfold sTg at h
  cases e1 : mK me ρ with
  | no => rw [e1] at h; exact h.elim
  | er x ρ' => rw [e1] at h; exact ErS.toP h
  | ok d ρ1 =>
    rw [e1] at h
    intro v H1 R1 x1 r1
    have h : GS X.K F H σ ρ D (oNx (t d ρ1)) := h
    cases e2 : t d ρ1 with
    | none => rw [e2] at h; exact h.elim
    | some ρ2 =>
      rw [e2] at h
      exact ⟨noT, ρ1, d, R1, r1, ρ2, e2, fun σ2 H2 R2 x2 _ => h σ2 H2 R2 (x1.trans x2)⟩
end
end Vx
set_option maxHeartbeats 2000000
namespace Vx
open PySem PySem.Spec L2
inductive Sk where
  | L | T
def SqS (K : PySem.W.Frag) (k : Sk) (H : Hp) (a : Addr) (xs : List V) : Prop := match k with
  | .L => SqL K H a xs
  | .T => SqT K H a xs
def IsS (k : Sk) (h : Heap) (a : Addr) (its : Array Value) : Prop := match k with
  | .L => h.IsList a its
  | .T => h.IsTuple a its
def ItS (k : Sk) (h : Heap) (it a : Addr) (i : Nat) : Prop := match k with
  | .L => h.IsListIter it a i
  | .T => h.IsTupleIter it a i
def obS (k : Sk) (a : Addr) : Obj := match k with
  | .L => { cls := .type "list_iterator", data := .fields #[.ref a, .int 0 0] }
  | .T => { cls := .type "tuple_iterator", data := .fields #[.ref a, .int 0 0] }
theorem begS (k : Sk) (a : Addr) (its : Array Value) : Begins (.ref a) (obS k a) fun h => IsS k h a its := by
  cases k
  · exact begins_list a its
  · exact begins_tuple a its
theorem drawS {P : Program} {w : World} {A : Around} (k : Sk) (hh : A.handled = none) (it a : Addr) (ne : a ≠ it) (its : Array Value) : Draws P w A it [it, a] its.size (fun i v => its[i]? = some v) (fun i h => ItS k h it a i ∧ IsS k h a its) := by
  cases k
  · exact Draws.list hh it a ne its
  · exact Draws.tuple hh it a ne its
theorem itS0 {k : Sk} {h : Heap} {it a : Addr} (e : h.get? it = some (obS k a)) : ItS k h it a 0 := by
  cases k <;> exact ⟨_, e, rfl, rfl⟩
theorem ItS.obj {k : Sk} {h : Heap} {it a : Addr} {i : Nat} (x : ItS k h it a i) : ∃ o, h.get? it = some o ∧ ∀ v, o.data ≠ .cell v := by
  cases k <;> (obtain ⟨o, ho, hc, hd⟩ := x; exact ⟨o, ho, fun v q => by rw [hd] at q; cases q⟩)
theorem ItS.keep {k : Sk} {h h' : Heap} {it a : Addr} {i : Nat} (x : ItS k h it a i) (g : ∀ o, h.get? it = some o → h'.get? it = some o) : ItS k h' it a i := by
  cases k <;> exact x.at g
section
variable {X : Cx} {pins : List (Addr × Obj)} {σ : St} {H : Hp} {s : Shared} {k : Sk} {a : Addr} {xs ys : List V}
theorem srcI (I : Inv X pins σ H s) (h : SqS X.K k H a xs) : ∃ its : List Value, Vals xs its ∧ IsS k s.heap a its.toArray ∧ xs.length ≤ sizeLine := by
  cases k with
  | L => obtain ⟨its, r, p, z⟩ := I.list h; exact ⟨its, r, p.isList, z⟩
  | T => obtain ⟨its, r, p, z⟩ := I.tuple h; exact ⟨its, r, p, z⟩
theorem srcInj (I : Inv X pins σ H s) (h : SqS X.K k H a xs) (h' : SqS X.K k H a ys) : xs = ys := by
  cases k with
  | L => exact I.list_inj h h'
  | T => exact I.tuple_inj h h'
end
/-- the source as it stands at each turn, each item in a new pair behind its number -/
def ItE (K : PySem.W.Frag) (k : Sk) (a : Addr) : It :=
  ⟨fun i H => ∃ (xs : List V) (x : V), SqS K k H a xs ∧ xs[i]? = some x,
   fun i H v H' => ∃ T x, v = .ref T ∧ H T = none ∧ H' = upd H T (.tup [.int (i : Nat), x]) ∧ ∀ xs, SqS K k H a xs → xs[i]? = some x,
   fun i H => ∃ xs : List V, SqS K k H a xs ∧ xs.length = i⟩
theorem pairNew {X : Cx} {pins : List (Addr × Obj)} {σ : St} {H : Hp} {s : Shared} {h' : Heap} {tk : Nat} {ch : List Addr} {T : Addr} {x y : V} {u v : Value} (I : Inv X pins σ H s) (kp : ∀ b o, b ∉ ch → s.heap.get? b = some o → h'.get? b = some o)
    (hf : ∀ b ∈ ch, FpOk X pins H b) (hT : s.heap.objs.size ≤ T) (t : h'.IsTuple T #[u, v]) (rx : RelV x u) (ry : RelV y v) : Inv X pins σ (upd H T (.tup [x, y])) { s with heap := h', toks := tk } :=
  Inv.turnedNew (ch := ch) I kp hf hT ⟨by show 2 ≤ sizeLine; decide, [u, v], .cons rx (.cons ry .nil), t⟩
theorem turnE {P : Program} {w : World} {K : PySem.W.Frag} {elts : List Expr} {kk : Nat} {tpos : Pos} (k : Sk) (a e it : Addr) (hei : e ≠ it) (hea : e ≠ a) (hia : it ≠ a) :
    Turn P w K (.Tuple elts kk tpos) (ItE K k a) [e, it] e (fun i h => (∃ old, IsEnum h e it ((i : Nat) : Int) old) ∧ ItS k h it a i) where
  mem := List.mem_cons_self
  obj := fun i h st b hb => by
    obtain ⟨⟨old, he⟩, hi⟩ := st
    rcases List.mem_cons.mp hb with z | z
    · subst z; exact ⟨_, he, fun v q => nomatch q⟩
    · have z := List.mem_singleton.mp z
      subst z; exact hi.obj
  keep := fun i h h' st g => ⟨st.1.imp fun old he => g e List.mem_cons_self _ he, st.2.keep fun o q => g it (List.mem_cons_of_mem _ List.mem_cons_self) o q⟩
  item := by
    intro X hP hw hK hc i pins s σ H E I hf st hg
    subst hP; subst hw; subst hK
    obtain ⟨xs, x, hq, hx⟩ := hg
    obtain ⟨its, rv, p, hz⟩ := srcI I hq
    obtain ⟨u, hu, ru⟩ := rv.get hx
    have hi : i < its.length := (List.getElem?_eq_some_iff.mp hu).1
    have W := GoesN.enumFrom (prog := X.prog) (w := X.w) (A := X.A) (elts := elts) (x1 := kk) (pos := tpos) 0 (drawS k (show X.A.in1.handled = none from I.ok.hd hc) it a (Ne.symm hia) its.toArray) e hei (by
      intro z
      rcases List.mem_cons.mp z with z | z
      · exact hei z
      · exact hea (List.mem_singleton.mp z)) List.mem_cons_self
    have st2 : (∃ old, IsEnum s.heap e it (0 + (i : Int)) old) ∧ ItS k s.heap it a i ∧ IsS k s.heap a its.toArray := ⟨by rw [Int.zero_add]; exact st.1, st.2, p⟩
    refine W.goes i s _ E (by simpa using hi) st2 fun v h' tk hY st' kp _ => ?_
    obtain ⟨T, t, y, ev, hT, hy, tup⟩ := hY
    have ey : y = u := by
      have q : its.toArray[i]? = some y := hy
      have q2 : its.toArray[i]? = some u := by simpa using hu
      rw [q2] at q; exact (Option.some.inj q).symm
    subst ev; subst ey
    have tup : h'.IsTuple T #[.int (0 + (i : Int)) t, y] := tup
    rw [Int.zero_add] at tup
    have I1 := pairNew (x := .int (i : Nat)) (y := x) (tk := tk) I kp hf hT tup ⟨t, rfl⟩ ru
    have hn : H T = none := I.hok.fresh hT
    refine ⟨.ref T, _, I1, rfl, ⟨T, x, rfl, hn, rfl, fun ys hy => by rw [srcInj I hy hq]; exact hx⟩, ⟨?_, st'.2.1⟩, fun b hb => ?_⟩
    · obtain ⟨old, q⟩ := st'.1
      refine ⟨old, ?_⟩
      have e1 : (0 : Int) + ((i + 1 : Nat) : Int) = ((i + 1 : Nat) : Int) := Int.zero_add _
      rw [← e1]; exact q
    · have fb := hf b hb
      have ne : b ≠ T := by
        obtain ⟨o, ho⟩ : ∃ o, s.heap.get? b = some o := by
          rcases List.mem_cons.mp hb with z | z
          · subst z; obtain ⟨old, q⟩ := st.1; exact ⟨_, q⟩
          · have z := List.mem_singleton.mp z
            subst z; obtain ⟨o, q, _⟩ := st.2.obj; exact ⟨o, q⟩
        exact Nat.ne_of_lt (Nat.lt_of_lt_of_le (Heap.lt_size ho) hT)
      rw [upd_ne ne]
      exact fb.1
  done := by
    intro X hP hw hK hc i pins s σ H E I hf st hg
    subst hP; subst hw; subst hK
    obtain ⟨xs, hq, hx⟩ := hg
    obtain ⟨its, rv, p, hz⟩ := srcI I hq
    have hl := rv.length
    have W := GoesN.enumFrom (prog := X.prog) (w := X.w) (A := X.A) (elts := elts) (x1 := kk) (pos := tpos) 0 (drawS k (show X.A.in1.handled = none from I.ok.hd hc) it a (Ne.symm hia) its.toArray) e hei (by
      intro z
      rcases List.mem_cons.mp z with z | z
      · exact hei z
      · exact hea (List.mem_singleton.mp z)) List.mem_cons_self
    have en : its.toArray.size = i := by simp; omega
    have st2 : (∃ old, IsEnum s.heap e it (0 + ((its.toArray.size : Nat) : Int)) old) ∧ ItS k s.heap it a its.toArray.size ∧ IsS k s.heap a its.toArray := by
      rw [en]
      exact ⟨by rw [Int.zero_add]; exact st.1, st.2, p⟩
    exact W.stops s _ E st2 fun h' tk kp _ => I.turnedL (ch := [e, it]) kp hf
  self := fun A i s Q E st h => by
    obtain ⟨⟨old, he⟩, _⟩ := st
    exact wpAny_pyIter_enum he h
/-- enumerate(v): v a list or a tuple -/
theorem enum_new {P : Program} {w : World} {A : Around} {E : Value → Shared → Prop} {s : Shared} {v : Value} {o : Obj} {Hs : Heap → Prop} {Q : Value → Shared → Prop} (B : Begins v o Hs) (h1 : Hs s.heap)
    (h : ∀ h', IsEnum h' (s.heap.objs.size + 1) s.heap.objs.size 0 .none → h'.get? s.heap.objs.size = some o → (∀ b o, s.heap.get? b = some o → h'.get? b = some o) → Q (.ref (s.heap.objs.size + 1)) { s with heap := h' }) :
    wpAny (model P w) A (call (.type "enumerate") [v]) Q E s := by
  have M : Meets (Builtin.«enumerate.__new__» ⟨[.type "enumerate", v], []⟩) (fun _ R s => Hs s.heap ∧ R (.ok (.ret (.ref (s.heap.push o).objs.size))) { s with heap := (s.heap.push o).push { cls := .type "enumerate", data := .fields #[.none, .bool false, .ref s.heap.objs.size, rawInt 0, .none, .none] } }) :=
    .of_wp fun prog w A R s h => by
      obtain ⟨hp, g, d, tk, os⟩ := s
      obtain ⟨h1, h⟩ := h
      have hsub := sub_enumerate
      have q1 : ∀ {A' : Around} {E : Value → Shared → Prop} {Q : Value → Shared → Prop}, Q (.ref hp.objs.size) ⟨hp.push o, g, d, tk, os⟩ → wpAny (model prog w) A' (pyIter v) Q E ⟨hp, g, d, tk, os⟩ := fun q => B.iter prog w _ _ ⟨hp, g, d, tk, os⟩ _ h1 q
      wp_walk using q1
      refine wpAny_stack_any fun st => wpAny_pure ?_
      split
      · rename_i c _ _ _ _ _
        cases (c == Value.type "enumerate") <;> (wp_walk using q1; exact ⟨_, rfl, h⟩)
      · wp_walk using q1
        exact ⟨_, rfl, h⟩
  refine callType_new F.called_enumerate (by decide) (F.typeCall_enumerate_1 _) (F.newCall_enumerate_1 _) (fun obj => F.args_object_init_2 obj _) F.entry_enumerate_new M ⟨h1, ?_⟩
  have hz : (s.heap.push o).objs.size = s.heap.objs.size + 1 := Heap.size_push ..
  have he : IsEnum ((s.heap.push o).push { cls := .type "enumerate", data := .fields #[.none, .bool false, .ref s.heap.objs.size, rawInt 0, .none, .none] }) (s.heap.objs.size + 1) s.heap.objs.size 0 .none := by
    have z := Heap.get?_push_size (s.heap.push o) (o := { cls := .type "enumerate", data := .fields #[.none, .bool false, .ref s.heap.objs.size, rawInt 0, .none, .none] }) rfl
    rw [hz] at z; exact z
  show _ ∧ _
  rw [hz]
  exact ⟨⟨_, he, rfl⟩, h _ he (Heap.get?_push_of_some _ (Heap.get?_push_size _ B.free)) fun b o x => Heap.get?_push_of_some _ (Heap.get?_push_of_some _ x)⟩
end Vx
set_option maxHeartbeats 2000000
namespace Vx
open PySem PySem.Spec L2
def ItZ (K : PySem.W.Frag) (k l : Sk) (a b : Addr) : It :=
  ⟨fun i H => ∃ (xs ys : List V) (x y : V), SqS K k H a xs ∧ SqS K l H b ys ∧ xs[i]? = some x ∧ ys[i]? = some y,
   fun i H v H' => ∃ T x y, v = .ref T ∧ H T = none ∧ H' = upd H T (.tup [x, y]) ∧ (∀ xs, SqS K k H a xs → xs[i]? = some x) ∧ ∀ ys, SqS K l H b ys → ys[i]? = some y,
   fun i H => ∃ xs ys : List V, SqS K k H a xs ∧ SqS K l H b ys ∧ min xs.length ys.length = i⟩
structure ZSep (z TI TO i1 i2 a b : Addr) : Prop where
  sep : ZipSep2 z TI TO i1 i2 [i1, a] [i2, b]
  a1 : a ≠ i1
  b2 : b ≠ i2
theorem turnZ {P : Program} {w : World} {K : PySem.W.Frag} {elts : List Expr} {kk : Nat} {tpos : Pos} {k l : Sk} {z TI TO i1 i2 a b : Addr} (S : ZSep z TI TO i1 i2 a b) :
    Turn P w K (.Tuple elts kk tpos) (ItZ K k l a b) [z, TI, TO, i1, i2] z
      (fun i h => IsZip h z TI TO .none ∧ IsTupOf2 h TI (.ref i1) (.ref i2) ∧ (∃ a1 a2, IsTupOf2 h TO a1 a2) ∧ ItS k h i1 a i ∧ ItS l h i2 b i) where
  mem := List.mem_cons_self
  obj := fun i h st c hc => by
    obtain ⟨h1, h2, ⟨a1, a2, h3⟩, h4, h5⟩ := st
    simp only [List.mem_cons, List.not_mem_nil, or_false] at hc
    rcases hc with rfl | rfl | rfl | rfl | rfl
    · exact ⟨_, h1, fun v q => nomatch q⟩
    · exact ⟨_, h2, fun v q => nomatch q⟩
    · exact ⟨_, h3, fun v q => nomatch q⟩
    · exact h4.obj
    · exact h5.obj
  keep := fun i h h' st g => by
    obtain ⟨h1, h2, ⟨a1, a2, h3⟩, h4, h5⟩ := st
    exact ⟨g z (by simp) _ h1, g TI (by simp) _ h2, ⟨a1, a2, g TO (by simp) _ h3⟩, h4.keep fun o q => g i1 (by simp) o q, h5.keep fun o q => g i2 (by simp) o q⟩
  item := by
    intro X hP hw hK hc i pins s σ H E I hf st hg
    subst hP; subst hw; subst hK
    obtain ⟨xs, ys, x, y, hq, hr, hx, hy⟩ := hg
    obtain ⟨its, rv, p, hz⟩ := srcI I hq
    obtain ⟨jts, rw', p', hz'⟩ := srcI I hr
    obtain ⟨u, hu, ru⟩ := rv.get hx
    obtain ⟨u', hu', ru'⟩ := rw'.get hy
    have hi : i < its.length := (List.getElem?_eq_some_iff.mp hu).1
    have hj : i < jts.length := (List.getElem?_eq_some_iff.mp hu').1
    have hh : X.A.in1.handled = none := I.ok.hd hc
    have W := GoesN.zip2 (prog := X.prog) (w := X.w) (A := X.A) (elts := elts) (x1 := kk) (pos := tpos) S.sep (drawS k hh i1 a S.a1 its.toArray) (drawS l hh i2 b S.b2 jts.toArray)
    obtain ⟨h1, h2, h3, h4, h5⟩ := id st
    refine W.goes i s _ E (by simp; omega) ⟨h1, h2, h3, ⟨h4, p⟩, ⟨h5, p'⟩⟩ fun v h' tk hY st' kp _ => ?_
    obtain ⟨T, c, d, ev, hT, hcx, hdx, tup⟩ := hY
    have ec : c = u := by
      have q : its.toArray[i]? = some c := hcx
      have q2 : its.toArray[i]? = some u := by simpa using hu
      rw [q2] at q; exact (Option.some.inj q).symm
    have ed : d = u' := by
      have q : jts.toArray[i]? = some d := hdx
      have q2 : jts.toArray[i]? = some u' := by simpa using hu'
      rw [q2] at q; exact (Option.some.inj q).symm
    subst ev; subst ec; subst ed
    have kp' : ∀ b o, b ∉ [z, TI, TO, i1, i2] → s.heap.get? b = some o → h'.get? b = some o := fun b o hb e => kp b o (fun q => hb (by
      simp only [List.mem_cons, List.not_mem_nil, or_false] at q ⊢
      rcases q with q | q | q | q
      · exact .inl q
      · exact .inr (.inr (.inl q))
      · exact .inr (.inr (.inr (.inl q)))
      · exact .inr (.inr (.inr (.inr q))))) e
    have I1 := pairNew (x := x) (y := y) (tk := tk) I kp' hf hT tup ru ru'
    have hn : H T = none := I.hok.fresh hT
    obtain ⟨g1, g2, g3, g4, g5⟩ := st'
    refine ⟨.ref T, _, I1, rfl, ⟨T, x, y, rfl, hn, rfl, fun zs hz => by rw [srcInj I hz hq]; exact hx, fun zs hz => by rw [srcInj I hz hr]; exact hy⟩, ⟨g1, g2, g3, g4.1, g5.1⟩, fun b hb => ?_⟩
    have ne : b ≠ T := by
      obtain ⟨o, ho⟩ : ∃ o, s.heap.get? b = some o := by
        simp only [List.mem_cons, List.not_mem_nil, or_false] at hb
        rcases hb with rfl | rfl | rfl | rfl | rfl
        · exact ⟨_, h1⟩
        · exact ⟨_, h2⟩
        · obtain ⟨_, _, h3⟩ := h3; exact ⟨_, h3⟩
        · exact h4.obj.imp fun _ q => q.1
        · exact h5.obj.imp fun _ q => q.1
      exact Nat.ne_of_lt (Nat.lt_of_lt_of_le (Heap.lt_size ho) hT)
    rw [upd_ne ne]
    exact (hf b hb).1
  done := by
    intro X hP hw hK hc i pins s σ H E I hf st hg
    subst hP; subst hw; subst hK
    obtain ⟨xs, ys, hq, hr, hx⟩ := hg
    obtain ⟨its, rv, p, hz⟩ := srcI I hq
    obtain ⟨jts, rw', p', hz'⟩ := srcI I hr
    have hl := rv.length
    have hl' := rw'.length
    have hh : X.A.in1.handled = none := I.ok.hd hc
    have W := GoesN.zip2 (prog := X.prog) (w := X.w) (A := X.A) (elts := elts) (x1 := kk) (pos := tpos) S.sep (drawS k hh i1 a S.a1 its.toArray) (drawS l hh i2 b S.b2 jts.toArray)
    have en : min its.toArray.size jts.toArray.size = i := by simp; omega
    obtain ⟨h1, h2, h3, h4, h5⟩ := id st
    refine W.stops s _ E (by rw [en]; exact ⟨h1, h2, h3, ⟨h4, p⟩, ⟨h5, p'⟩⟩) fun h' tk kp _ => I.turnedL (ch := [z, TI, TO, i1, i2]) (fun b o hb e => kp b o (fun q => hb ?_) e) hf
    simp only [List.mem_cons, List.not_mem_nil, or_false] at q ⊢
    rcases q with q | q | q | q
    · exact .inl q
    · exact .inr (.inr (.inl q))
    · exact .inr (.inr (.inr (.inl q)))
    · exact .inr (.inr (.inr (.inr q)))
  self := fun A i s Q E st h => by
    obtain ⟨h1, _⟩ := st
    exact wpAny_pyIter_zip h1 h
end Vx
set_option maxHeartbeats 2000000
namespace Vx
open PySem PySem.Spec L2
/-- data of a value that is walked: an own list is shared, a lent one is read -/
def kpiS (i : Nat) (ρ : Ev) : Option Sl → Option (D × Ev)
  | some (.cl d) => some (d, ρ)
  | some (.bo d) => some (d, ρ)
  | some (.ow d) => some (d, ρ.set i (.cl d))
  | _ => none
@[simp] theorem kpiS_cl (i : Nat) (ρ : Ev) (d : D) : kpiS i ρ (some (.cl d)) = some (d, ρ) := rfl
@[simp] theorem kpiS_bo (i : Nat) (ρ : Ev) (d : D) : kpiS i ρ (some (.bo d)) = some (d, ρ) := rfl
@[simp] theorem kpiS_ow (i : Nat) (ρ : Ev) (d : D) : kpiS i ρ (some (.ow d)) = some (d, ρ.set i (.cl d)) := rfl
def kpi (ρ : Ev) : Op → Option (D × Ev)
  | .val d => some (d, ρ)
  | .fr d => some (d, ρ)
  | .sl i => kpiS i ρ ρ[i]?
@[simp] theorem kpi_val (ρ : Ev) (d : D) : kpi ρ (.val d) = some (d, ρ) := rfl
@[simp] theorem kpi_fr (ρ : Ev) (d : D) : kpi ρ (.fr d) = some (d, ρ) := rfl
@[simp] theorem kpi_sl (ρ : Ev) (i : Nat) : kpi ρ (.sl i) = kpiS i ρ ρ[i]? := rfl
def mKi (ma : M Op) : M D := fun ρ => (ma ρ).bind fun x ρ1 => optE (kpi ρ1 x)
def kiNil : M (List D) := fun ρ => .ok [] ρ
def kiCons (ma : M Op) (as : M (List D)) : M (List D) := fun ρ => (mKi ma ρ).bind fun x ρ1 => (as ρ1).bind fun xs ρ2 => .ok (x :: xs) ρ2
/-- stands until the body's end -/
def SR (K : PySem.W.Frag) (F : Fc) (A : Fo) (H : Hp) (v : V) (d : D) : Prop := RD K A H v d ∨ ∃ a, v = .ref a ∧ BO K F A H a d
inductive SRs (K : PySem.W.Frag) (F : Fc) (A : Fo) (H : Hp) : List V → List D → Prop
  | nil : SRs K F A H [] []
  | cons {v : V} {vs : List V} {d : D} {ds : List D} : SR K F A H v d → SRs K F A H vs ds → SRs K F A H (v :: vs) (d :: ds)
def KpH (F : Fc) (H : Hp) : Prop := ∀ b o, F.H0 b = some o → nTb o = true → ¬ F.L b → H b = some o
section
variable {K : PySem.W.Frag} {F : Fc} {A A' : Fo} {H H' : Hp} {v : V} {d : D}
theorem SR.mono (h : SR K F A H v d) (l : Le A H A' H') : SR K F A' H' v d := h.imp (fun h => RD.mono l _ _ h) fun ⟨a, e, q⟩ => ⟨a, e, q.mono l⟩
theorem SRs.mono (l : Le A H A' H') : ∀ {vs : List V} {ds : List D}, SRs K F A H vs ds → SRs K F A' H' vs ds
  | _, _, .nil => .nil
  | _, _, .cons h q => .cons (h.mono l) (SRs.mono l q)
theorem SR.src (h : SR K F A H v d) (kp : KpH F H) {ds : List D} (e : itL d = some ds) : ∃ k a xs, v = .ref a ∧ SqS K k H a xs ∧ RDs K A H xs ds := by
  rcases h with h | ⟨a, ev, h⟩
  · cases d <;> first
      | (cases e; done)
      | (cases e
         obtain ⟨a, xs, q1, q2, q3⟩ := (RB.rd h).lst
         exact ⟨.L, a, xs, q1, q2, q3⟩)
      | (cases e
         obtain ⟨a, xs, q1, q2, q3⟩ := (RB.rd h).tup
         exact ⟨.T, a, xs, q1, q2, q3⟩)
  · cases d <;> first
      | (cases e; done)
      | exact h.elim
      | (cases e
         obtain ⟨xs, h, q⟩ := h
         refine ⟨.L, a, xs, ev, ?_, q⟩
         rcases h with ⟨h | ⟨o, h⟩, n⟩ | h
         · exact .inl (.inl (kp _ _ h rfl n))
         · exact .inl (.inr ⟨o, kp _ _ h rfl n⟩)
         · exact sqL_K h)
/-- the walk J yields the items, wherever what was known stands -/
def ItOk (K : PySem.W.Frag) (F : Fc) (A0 : Fo) (H1 : Hp) (J : It) (ds : List D) : Prop := ∀ (i : Nat) (A : Fo) (H : Hp), Le A0 H1 A H → (∀ b, A b → H b ≠ none) → KpH F H →
  (∀ d, ds[i]? = some d → J.go i H ∧ ∀ x H', J.yld i H x H' → (∀ b o, H b = some o → H' b = some o) ∧ RD K A H' x d) ∧ (ds.length = i → J.stop i H)
def GKi (K : PySem.W.Frag) (F : Fc) (T : Fo) (H : Hp) (σ : St) (ρ : Ev) (Q : VK) : Rs D → Prop
  | .ok d ρ' => ∀ v H', Rel K F T H' σ ρ' → Ext σ ρ H σ ρ' H' → SR K F (Fb F T σ ρ') H' v d → Q v H'
  | .er x ρ' => ErP K F T H σ ρ x ρ'
  | .no => False
def liftKi (K : PySem.W.Frag) (F : Fc) (m : M D) : TE := fun σ H Q => ∃ T ρ, Rel K F T H σ ρ ∧ GKi K F T H σ ρ Q (m ρ)
def GKis (K : PySem.W.Frag) (F : Fc) (T : Fo) (H : Hp) (σ : St) (ρ : Ev) (Q : List V → Hp → Prop) : Rs (List D) → Prop
  | .ok ds ρ' => ∀ vs H', Rel K F T H' σ ρ' → Ext σ ρ H σ ρ' H' → SRs K F (Fb F T σ ρ') H' vs ds → Q vs H'
  | .er x ρ' => ErP K F T H σ ρ x ρ'
  | .no => False
def liftKis (K : PySem.W.Frag) (F : Fc) (m : M (List D)) : TA := fun σ H Q => ∃ T ρ, Rel K F T H σ ρ ∧ GKis K F T H σ ρ Q (m ρ)
def GI (K : PySem.W.Frag) (F : Fc) (T : Fo) (H : Hp) (σ : St) (ρ : Ev) (R : It → Hp → Prop) : Rs (List D) → Prop
  | .ok ds ρ' => ∀ J H', Rel K F T H' σ ρ' → Ext σ ρ H σ ρ' H' → ItOk K F (Fb F T σ ρ') H' J ds → R J H'
  | .er x ρ' => ErP K F T H σ ρ x ρ'
  | .no => False
def liftI (K : PySem.W.Frag) (F : Fc) (m : M (List D)) : TI := fun σ H R => ∃ T ρ, Rel K F T H σ ρ ∧ GI K F T H σ ρ R (m ρ)
theorem Post.kpi {T : Fo} {σ : St} {ρ ρ' ρ2 : Ev} {op : Op} (R : Rel K F T H σ ρ) (p : Post K F T H σ ρ op ρ' v H') (e : kpi ρ' op = some (d, ρ2)) : Rel K F T H' σ ρ2 ∧ Ext σ ρ H σ ρ2 H' ∧ SR K F (Fb F T σ ρ2) H' v d := by
  have old : ∀ (e : Vx.kp ρ' op = some (d, ρ2)), Rel K F T H' σ ρ2 ∧ Ext σ ρ H σ ρ2 H' ∧ SR K F (Fb F T σ ρ2) H' v d := fun e => by
    obtain ⟨a, b, c⟩ := p.kp R e
    exact ⟨a, b, .inl c⟩
  cases op with
  | val d' => exact old e
  | fr d' => exact old e
  | sl i =>
    have hv : σ[i]? = some (some v) := p.val
    have e : kpiS i ρ' ρ'[i]? = some (d, ρ2) := e
    cases q : ρ'[i]? with
    | none => rw [q] at e; cases e
    | some s =>
      rw [q] at e
      cases s with
      | un => cases e
      | le _ => cases e
      | cl d' => exact old (show keepS i ρ' ρ'[i]? = some (d, ρ2) by rw [q]; exact e)
      | ow d' => exact old (show keepS i ρ' ρ'[i]? = some (d, ρ2) by rw [q]; exact e)
      | bo d' =>
        cases e
        have Rl := p.back
        obtain ⟨a, q1, q2⟩ := Rl.bo i d q
        rw [hv] at q1; cases q1
        exact ⟨Rl, p.ext, .inr ⟨a, rfl, q2⟩⟩
end
abbrev QI (X : Cx) (F : Fc) (tg e : Expr) (m : M (List D)) : Prop := PI X tg e (liftI X.K F m)
abbrev QKi (X : Cx) (F : Fc) (e : Expr) (m : M D) : Prop := PE X e (liftKi X.K F m)
abbrev QKis (X : Cx) (F : Fc) (es : List Expr) (m : M (List D)) : Prop := PA X es (liftKis X.K F m)
section
variable {X : Cx} {F : Fc} {tg e : Expr} {es : List Expr} {me : M Op} {mks : M (List D)} {mas : M (List Op)} {p pos tpos : Pos}
theorem liftKi_ (h : QE X F e me) : QKi X F e (mKi me) := by
  refine h.imp fun σ H Q ⟨T, ρ, R, h⟩ => ⟨T, ρ, R, ?_⟩
  unfold mKi at h
  cases e1 : me ρ with
  | no => rw [e1] at h; exact h.elim
  | er x ρ' => rw [e1] at h; exact h
  | ok x ρ1 =>
    rw [e1] at h
    intro v H1 p
    have h : GKi X.K F T H σ ρ Q (optE (kpi ρ1 x)) := h
    cases e2 : kpi ρ1 x with
    | none => rw [e2] at h; exact h.elim
    | some q =>
      obtain ⟨d, ρ2⟩ := q
      rw [e2] at h
      obtain ⟨r1, r2, r3⟩ := p.kpi R e2
      exact h v H1 r1 r2 r3
theorem qki_nil : QKis X F [] kiNil := pa_nil.imp fun σ H Q ⟨T, ρ, R, h⟩ => h [] H R (Ext.refl ..) .nil
theorem qki_cons (ha : QE X F e me) (hr : QKis X F es mks) (hs : starEach (e :: es) X.env = (false, eval e X.env) :: starEach es X.env := by rfl) : QKis X F (e :: es) (kiCons me mks) := by
  refine (pa_cons (liftKi_ ha) hr hs).imp fun σ H Q ⟨T, ρ, R, h⟩ => ⟨T, ρ, R, ?_⟩
  unfold kiCons at h
  cases e1 : mKi me ρ with
  | no => rw [e1] at h; exact h.elim
  | er x ρ' => rw [e1] at h; exact h
  | ok d ρ1 =>
    rw [e1] at h
    intro v H1 R1 x1 q1
    refine ⟨T, ρ1, R1, ?_⟩
    have h : GKis X.K F T H σ ρ Q ((mks ρ1).bind fun xs ρ2 => .ok (d :: xs) ρ2) := h
    cases e2 : mks ρ1 with
    | no => rw [e2] at h; exact h.elim
    | er z ρ' =>
      rw [e2] at h
      exact ErP.back (show ErP X.K F T H σ ρ z ρ' from h) x1 fun _ z => z
    | ok ds ρ2 =>
      rw [e2] at h
      intro vs H2 R2 x2 q2
      exact h (v :: vs) H2 R2 (x1.trans x2) (.cons (q1.mono (x2.fb fun _ z => .inl z)) q2)
/-- a list or a tuple -/
theorem pi_any {tl : TE} (hl : PE X e tl) : PI X tg e (fun σ H R => tl σ H fun x H1 => (∃ a xs, x = .ref a ∧ SqL X.K H1 a xs ∧ R (Itl X.K a) H1) ∨ ∃ a xs, x = .ref a ∧ SqT X.K H1 a xs ∧ R (Itt X.K a) H1) := by
  constructor
  intro pins s σ H R I h
  refine thn (hl.run pins s σ H _ I h) fun v s1 ⟨x, H1, I1, r1, q1⟩ => ?_
  have fp : ∀ b ∈ [s1.heap.objs.size], FpOk X pins H1 b := fun b hb => by
    rw [List.mem_singleton.mp hb]
    exact I1.fpOk (Nat.le_refl _) (I1.hok.fresh (Nat.le_refl _))
  rcases q1 with ⟨a, xs, ex, hq, q⟩ | ⟨a, xs, ex, hq, q⟩
  · subst ex; cases r1
    obtain ⟨its, rv, pl, hz⟩ := I1.list hq
    exact wpAny_pyIter_list pl.isList ⟨_, [s1.heap.objs.size], _, _, H1, rfl, Inv.kept (t' := s1.toks) I1 fun b o e => Heap.get?_push_of_some _ e, turn_list a _, ⟨_, Heap.get?_push_size _ rfl, rfl, rfl⟩, fp, q⟩
  · subst ex; cases r1
    obtain ⟨its, rv, pl, hz⟩ := I1.tuple hq
    exact wpAny_pyIter_tuple (show s1.heap.IsTuple a its.toArray from pl) ⟨_, [s1.heap.objs.size], _, _, H1, rfl, Inv.kept (t' := s1.toks) I1 fun b o e => Heap.get?_push_of_some _ e, turn_tuple a _, ⟨_, Heap.get?_push_size _ rfl, rfl, rfl⟩, fp, q⟩
/-- the items of a source -/
theorem itOk_src {K : PySem.W.Frag} {A : Fo} {H : Hp} {v : V} {d : D} {ds : List D} (r : SR K F A H v d) (kp : KpH F H) (e : itL d = some ds) (i : Nat) {A' : Fo} {H' : Hp} (l : Le A H A' H') (kp' : KpH F H') {k : Sk} {a : Addr} {xs : List V} (ev : v = .ref a) (sq : SqS K k H a xs) :
    ∃ k' xs', SqS K k' H' a xs' ∧ RDs K A' H' xs' ds := by
  obtain ⟨k', a', xs', q1, q2, q3⟩ := (r.mono l).src kp' e
  rw [ev] at q1; cases q1
  exact ⟨k', xs', q2, q3⟩
theorem SR.kind {K : PySem.W.Frag} {A : Fo} {H : Hp} {v : V} {d : D} {ds : List D} (r : SR K F A H v d) (kp : KpH F H) (e : itL d = some ds) : ∃ k a, v = .ref a ∧ ∀ A' H', Le A H A' H' → KpH F H' → ∃ xs, SqS K k H' a xs ∧ RDs K A' H' xs ds := by
  obtain ⟨k, a, xs, ev, q2, q3⟩ := r.src kp e
  have dk : (d = .list ds ∧ k = .L) ∨ (d = .tuple ds ∧ k = .T) ∨ (∃ d', d = .list d') ∨ ∃ d', d = .tuple d' := by
    cases d <;> first | (cases e; done) | exact .inr (.inr (.inl ⟨_, rfl⟩)) | exact .inr (.inr (.inr ⟨_, rfl⟩))
  have dk : (d = .list ds) ∨ (d = .tuple ds) := by
    cases d <;> first | (cases e; done) | (cases e; exact .inl rfl) | (cases e; exact .inr rfl)
  rcases dk with dk | dk
  · subst dk
    refine ⟨.L, a, ev, fun A' H' l kp' => ?_⟩
    rcases r.mono l with h | ⟨a', ev', h⟩
    · obtain ⟨a', xs', z1, z2, z3⟩ := (RB.rd h).lst
      rw [ev] at z1; cases z1
      exact ⟨xs', z2, z3⟩
    · rw [ev] at ev'; cases ev'
      obtain ⟨xs', h, q⟩ := h
      refine ⟨xs', ?_, q⟩
      rcases h with ⟨h | ⟨o, h⟩, n⟩ | h
      · exact .inl (.inl (kp' _ _ h rfl n))
      · exact .inl (.inr ⟨o, kp' _ _ h rfl n⟩)
      · exact sqL_K h
  · subst dk
    refine ⟨.T, a, ev, fun A' H' l kp' => ?_⟩
    rcases r.mono l with h | ⟨a', ev', h⟩
    · obtain ⟨a', xs', z1, z2, z3⟩ := (RB.rd h).tup
      rw [ev] at z1; cases z1
      exact ⟨xs', z2, z3⟩
    · exact h.elim
def iSeqM (me : M Op) : M (List D) := fun ρ => (mKi me ρ).bind fun d ρ1 => opt ρ1 (itL d)
theorem itOk_seq {K : PySem.W.Frag} {A : Fo} {H : Hp} {k : Sk} {a : Addr} {ds : List D} (h : ∀ A' H', Le A H A' H' → KpH F H' → ∃ xs, SqS K k H' a xs ∧ RDs K A' H' xs ds) :
    ItOk K F A H (match k with | .L => Itl K a | .T => Itt K a) ds := by
  intro i A' H' l fb kp
  obtain ⟨xs, sq, rs⟩ := h A' H' l kp
  cases k with
  | L =>
    refine ⟨fun d hd => ?_, fun hl => ⟨xs, sq, by rw [rs.length, hl]; exact Nat.le_refl _⟩⟩
    obtain ⟨x, hx, rx⟩ := rs.get hd
    refine ⟨⟨xs, x, sq, hx⟩, fun y H2 ⟨e, q⟩ => ?_⟩
    have z := q xs sq
    rw [hx] at z; cases z
    subst e
    exact ⟨fun _ _ h => h, rx⟩
  | T =>
    refine ⟨fun d hd => ?_, fun hl => ⟨xs, sq, by rw [rs.length, hl]; exact Nat.le_refl _⟩⟩
    obtain ⟨x, hx, rx⟩ := rs.get hd
    refine ⟨⟨xs, x, sq, hx⟩, fun y H2 ⟨e, q⟩ => ?_⟩
    have z := q xs sq
    rw [hx] at z; cases z
    subst e
    exact ⟨fun _ _ h => h, rx⟩
theorem qi_seq (h : QE X F e me) : QI X F tg e (iSeqM me) := by
  refine (pi_any (liftKi_ h)).imp fun σ H Q ⟨T, ρ, R, h⟩ => ⟨T, ρ, R, ?_⟩
  unfold iSeqM at h
  cases e1 : mKi me ρ with
  | no => rw [e1] at h; exact h.elim
  | er x ρ' => rw [e1] at h; exact h
  | ok d ρ1 =>
    rw [e1] at h
    intro v H1 R1 x1 r1
    have h : GI X.K F T H σ ρ Q (opt ρ1 (itL d)) := h
    cases e2 : itL d with
    | none => rw [e2] at h; exact h.elim
    | some ds =>
      rw [e2] at h
      obtain ⟨k, a, ev, q⟩ := r1.kind R1.keep e2
      obtain ⟨xs, sq, _⟩ := q _ _ (Le.refl _ _) R1.keep
      have z := itOk_seq q
      cases k with
      | L => exact .inl ⟨a, xs, ev, sq, h _ H1 R1 x1 z⟩
      | T => exact .inr ⟨a, xs, ev, sq, h _ H1 R1 x1 z⟩
def rngD (lo : Int) (n : Nat) : List D := (List.range n).map fun (i : Nat) => PyData.int (lo + i)
def bnd (i : Int) : Bool := decide (-(2 ^ 62) ≤ i) && decide (i < 2 ^ 62)
def rng1 : List D → Option (List D)
  | [.int j] => if bnd j then some (rngD 0 j.toNat) else none
  | _ => none
def rng2 : List D → Option (List D)
  | [.int i, .int j] => if bnd i && bnd j then some (rngD i (j - i).toNat) else none
  | _ => none
def iFn (f : List D → Option (List D)) (as : M (List Op)) : M (List D) := fun ρ => (as ρ).bind fun xs ρ1 => opt ρ1 ((rds ρ1 xs).bind f)
theorem itOk_rng {K : PySem.W.Frag} {A : Fo} {H : Hp} (lo : Int) (n : Nat) : ItOk K F A H (Itr lo n) (rngD lo n) := by
  intro i A' H' l fb kp
  refine ⟨fun d hd => ?_, fun hl => ?_⟩
  · unfold rngD at hd
    rw [List.getElem?_map] at hd
    cases q : (List.range n)[i]? with
    | none => rw [q] at hd; cases hd
    | some j =>
      rw [q] at hd
      obtain ⟨hi, hj⟩ := List.getElem?_eq_some_iff.mp q
      rw [List.getElem_range] at hj
      subst hj
      cases hd
      refine ⟨(show i < n by simpa using hi), fun x H2 ⟨e1, e2⟩ => ?_⟩
      subst e1; subst e2
      exact ⟨fun _ _ h => h, .int _⟩
  · have : n = i := by simpa [rngD] using hl
    exact Nat.le_of_eq this
theorem qi_range1 {a : Expr} (hg : Gl X "range") (hm : X.mg "range" = none) (ha : QA X F [a] mas) (hs : starEach [a] X.env = [(false, eval a X.env)] := by rfl) : QI X F tg (.Call (.Name "range" p) [a] [] pos) (iFn rng1 mas) := by
  refine (pi_range1 hg hm ha hs).imp fun σ H Q ⟨T, ρ, R, h⟩ => ⟨T, ρ, R, ?_⟩
  unfold iFn at h
  cases e1 : mas ρ with
  | no => rw [e1] at h; exact h.elim
  | er x ρ' => rw [e1] at h; exact h
  | ok xs ρ1 =>
    rw [e1] at h
    intro T1 vs H1 t n R1 x1 q1
    have h : GI X.K F T H σ ρ Q (opt ρ1 ((rds ρ1 xs).bind rng1)) := h
    cases e2 : rds ρ1 xs with
    | none => rw [e2] at h; exact h.elim
    | some ds =>
      rw [e2] at h
      have h : GI X.K F T H σ ρ Q (opt ρ1 (rng1 ds)) := h
      have rb := q1.rbs R1 e2
      cases rb with
      | nil => exact h.elim
      | @cons v1 vs1 d ds r1 rr =>
        cases rr with
        | cons _ _ => cases d <;> exact h.elim
        | nil =>
          cases d with
          | int j =>
            cases r1.int
            have h : GI X.K F T H σ ρ Q (opt ρ1 (if bnd j then some (rngD 0 j.toNat) else none)) := h
            by_cases c : bnd j = true
            · rw [if_pos c] at h
              unfold bnd at c
              simp only [Bool.and_eq_true, decide_eq_true_eq] at c
              exact ⟨j, rfl, c.1, c.2, h _ H1 (R1.less t) x1 (itOk_rng 0 _)⟩
            · rw [if_neg c] at h; exact h.elim
          | _ => exact h.elim
theorem qi_range2 {a b : Expr} (hg : Gl X "range") (hm : X.mg "range" = none) (ha : QA X F [a, b] mas) (hs : starEach [a, b] X.env = [(false, eval a X.env), (false, eval b X.env)] := by rfl) (hs2 : starEach [b] X.env = [(false, eval b X.env)] := by rfl) : QI X F tg (.Call (.Name "range" p) [a, b] [] pos) (iFn rng2 mas) := by
  refine (pi_range2 hg hm ha hs hs2).imp fun σ H Q ⟨T, ρ, R, h⟩ => ⟨T, ρ, R, ?_⟩
  unfold iFn at h
  cases e1 : mas ρ with
  | no => rw [e1] at h; exact h.elim
  | er x ρ' => rw [e1] at h; exact h
  | ok xs ρ1 =>
    rw [e1] at h
    intro T1 vs H1 t n R1 x1 q1
    have h : GI X.K F T H σ ρ Q (opt ρ1 ((rds ρ1 xs).bind rng2)) := h
    cases e2 : rds ρ1 xs with
    | none => rw [e2] at h; exact h.elim
    | some ds =>
      rw [e2] at h
      have h : GI X.K F T H σ ρ Q (opt ρ1 (rng2 ds)) := h
      have rb := q1.rbs R1 e2
      cases rb with
      | nil => exact h.elim
      | @cons v1 vs1 d ds r1 rr =>
        cases rr with
        | nil => cases d <;> exact h.elim
        | @cons v2 vs2 d2 ds2 r2 rr =>
          cases rr with
          | cons _ _ => cases d <;> cases d2 <;> exact h.elim
          | nil =>
            cases d with
            | int i =>
              cases d2 with
              | int j =>
                cases r1.int
                cases r2.int
                have h : GI X.K F T H σ ρ Q (opt ρ1 (if bnd i && bnd j then some (rngD i (j - i).toNat) else none)) := h
                by_cases c : (bnd i && bnd j) = true
                · rw [if_pos c] at h
                  unfold bnd at c
                  simp only [Bool.and_eq_true, decide_eq_true_eq] at c
                  exact ⟨i, j, rfl, ⟨c.1.1, c.1.2, c.2.1, c.2.2⟩, h _ H1 (R1.less t) x1 (itOk_rng i _)⟩
                · rw [if_neg c] at h; exact h.elim
              | _ => exact h.elim
            | _ => exact h.elim
def enumD (i : Nat) : List D → List D
  | [] => []
  | d :: r => .tuple [.int i, d] :: enumD (i + 1) r
def zipD (xs ys : List D) : List D := List.zipWith (fun a b => PyData.tuple [a, b]) xs ys
theorem enumD_get : ∀ (ds : List D) (i j : Nat), (enumD i ds)[j]? = ds[j]?.map fun d => PyData.tuple [.int ((i + j : Nat) : Int), d]
  | [], _, _ => rfl
  | d :: r, i, 0 => rfl
  | d :: r, i, j + 1 => by
    show (enumD (i + 1) r)[j]? = _
    rw [enumD_get r (i + 1) j, List.getElem?_cons_succ]
    have : i + 1 + j = i + (j + 1) := by omega
    rw [this]
theorem enumD_len : ∀ (ds : List D) (i : Nat), (enumD i ds).length = ds.length
  | [], _ => rfl
  | d :: r, i => congrArg (· + 1) (enumD_len r (i + 1))
def enm : List D → Option (List D)
  | [d] => (itL d).map (enumD 0)
  | _ => none
def zp : List D → Option (List D)
  | [a, b] => (itL a).bind fun xs => (itL b).map fun ys => zipD xs ys
  | _ => none
def iFnK (f : List D → Option (List D)) (as : M (List D)) : M (List D) := fun ρ => (as ρ).bind fun xs ρ1 => opt ρ1 (f xs)
theorem rd_pair {K : PySem.W.Frag} {A : Fo} {H : Hp} {T : Addr} {x y : V} {a b : D} (hn : H T = none) (fb : ∀ b, A b → H b ≠ none) (rx : RD K A H x a) (ry : RD K A H y b) : (∀ c o, H c = some o → upd H T (.tup [x, y]) c = some o) ∧ RD K A (upd H T (.tup [x, y])) (.ref T) (.tuple [a, b]) :=
  have g := upd_grow (o := .tup [x, y]) hn
  ⟨g, .tupH (.inl upd_same) (fun z => fb T z hn) (.cons (RD.mono (Le.same g) _ _ rx) (.cons (RD.mono (Le.same g) _ _ ry) .nil))⟩
theorem itOk_enum {K : PySem.W.Frag} {A : Fo} {H : Hp} {k : Sk} {a : Addr} {ds : List D} (h : ∀ A' H', Le A H A' H' → KpH F H' → ∃ xs, SqS K k H' a xs ∧ RDs K A' H' xs ds) : ItOk K F A H (ItE K k a) (enumD 0 ds) := by
  intro i A' H' l fb kp
  obtain ⟨xs, sq, rs⟩ := h A' H' l kp
  refine ⟨fun d hd => ?_, fun hl => ⟨xs, sq, by rw [rs.length, ← enumD_len ds 0, hl]⟩⟩
  rw [enumD_get, Nat.zero_add] at hd
  cases q : ds[i]? with
  | none => rw [q] at hd; cases hd
  | some c =>
    rw [q] at hd
    cases hd
    obtain ⟨x, hx, rx⟩ := rs.get q
    refine ⟨⟨xs, x, sq, hx⟩, fun y H2 ⟨T, x', e1, e2, e3, e4⟩ => ?_⟩
    have z := e4 xs sq
    rw [hx] at z; cases z
    subst e1; subst e3
    exact rd_pair e2 fb (.int _) rx
theorem itOk_zip {K : PySem.W.Frag} {A : Fo} {H : Hp} {k k' : Sk} {a b : Addr} {ds es : List D} (h : ∀ A' H', Le A H A' H' → KpH F H' → ∃ xs, SqS K k H' a xs ∧ RDs K A' H' xs ds) (h' : ∀ A' H', Le A H A' H' → KpH F H' → ∃ xs, SqS K k' H' b xs ∧ RDs K A' H' xs es) :
    ItOk K F A H (ItZ K k k' a b) (zipD ds es) := by
  intro i A' H' l fb kp
  obtain ⟨xs, sq, rs⟩ := h A' H' l kp
  obtain ⟨ys, sq', rs'⟩ := h' A' H' l kp
  refine ⟨fun d hd => ?_, fun hl => ⟨xs, ys, sq, sq', by rw [rs.length, rs'.length]; simpa [zipD] using hl⟩⟩
  unfold zipD at hd
  rw [List.getElem?_zipWith] at hd
  cases q : ds[i]? with
  | none => rw [q] at hd; cases hd
  | some c =>
    cases q' : es[i]? with
    | none => rw [q, q'] at hd; cases hd
    | some c' =>
      rw [q, q'] at hd
      cases hd
      obtain ⟨x, hx, rx⟩ := rs.get q
      obtain ⟨y, hy, ry⟩ := rs'.get q'
      refine ⟨⟨xs, ys, x, y, sq, sq', hx, hy⟩, fun v H2 ⟨T, x', y', e1, e2, e3, e4, e5⟩ => ?_⟩
      have z := e4 xs sq
      rw [hx] at z; cases z
      have z := e5 ys sq'
      rw [hy] at z; cases z
      subst e1; subst e3
      exact rd_pair e2 fb rx ry
theorem pi_enumS {elts : List Expr} {kk : Nat} {ta : TA} (hg : Gl X "enumerate") (hm : X.mg "enumerate" = none) (ha : PA X [e] ta) (hs : starEach [e] X.env = [(false, eval e X.env)] := by rfl) :
    PI X (.Tuple elts kk tpos) (.Call (.Name "enumerate" p) [e] [] pos) (fun σ H R => ta σ H fun vs H1 => ∃ k a xs, vs = [.ref a] ∧ SqS X.K k H1 a xs ∧ R (ItE X.K k a) H1) := by
  constructor
  intro pins s σ H R I h
  refine PyProof.Rows.Call_ (ld_blt I hg hm PyProof.Rows.boot_enumerate (PyProof.Rows.callWith_type1 (thn (ha.run pos pins s σ H _ I h) fun us s1 ⟨vs, H1, I1, r1, q1⟩ => ?_) hs rfl))
  obtain ⟨k, a, xs, ex, hq, q⟩ := q1
  subst ex
  obtain rfl := Vals.ref1 r1
  obtain ⟨its, rv, pl, hz⟩ := srcI I1 hq
  refine enum_new (begS k a its.toArray) pl fun h' he hit hk => wpAny_pyIter_enum he ?_
  have hlt : a < s1.heap.objs.size := by
    cases k
    · obtain ⟨o, e, _⟩ := pl; exact Heap.lt_size e
    · obtain ⟨o, e, _⟩ := pl; exact Heap.lt_size e
  refine ⟨_, [s1.heap.objs.size + 1, s1.heap.objs.size], _, _, H1, rfl, Inv.kept (t' := s1.toks) I1 hk, turnE k a _ s1.heap.objs.size (Nat.succ_ne_self _) (Nat.ne_of_gt (Nat.lt_succ_of_lt hlt)) (Nat.ne_of_gt hlt), ⟨⟨.none, he⟩, itS0 hit⟩, fun b hb => ?_, q⟩
  have hle : s1.heap.objs.size ≤ b := by
    rcases List.mem_cons.mp hb with z | z
    · rw [z]; exact Nat.le_succ _
    · rw [List.mem_singleton.mp z]; exact Nat.le_refl _
  exact I1.fpOk hle (I1.hok.fresh hle)
theorem qi_enum {elts : List Expr} {kk : Nat} (hg : Gl X "enumerate") (hm : X.mg "enumerate" = none) (ha : QKis X F [e] mks) (hs : starEach [e] X.env = [(false, eval e X.env)] := by rfl) :
    QI X F (.Tuple elts kk tpos) (.Call (.Name "enumerate" p) [e] [] pos) (iFnK enm mks) := by
  refine (pi_enumS hg hm ha hs).imp fun σ H Q ⟨T, ρ, R, h⟩ => ⟨T, ρ, R, ?_⟩
  unfold iFnK at h
  cases e1 : mks ρ with
  | no => rw [e1] at h; exact h.elim
  | er x ρ' => rw [e1] at h; exact h
  | ok ds ρ1 =>
    rw [e1] at h
    intro vs H1 R1 x1 q1
    have h : GI X.K F T H σ ρ Q (opt ρ1 (enm ds)) := h
    cases q1 with
    | nil => exact h.elim
    | @cons v1 vs1 d ds r1 rr =>
      cases rr with
      | cons _ _ => exact h.elim
      | nil =>
        have h : GI X.K F T H σ ρ Q (opt ρ1 ((itL d).map (enumD 0))) := h
        cases e2 : itL d with
        | none => rw [e2] at h; exact h.elim
        | some es =>
          rw [e2] at h
          obtain ⟨k, a, ev, q⟩ := r1.kind R1.keep e2
          obtain ⟨xs, sq, _⟩ := q _ _ (Le.refl _ _) R1.keep
          exact ⟨k, a, xs, by rw [ev], sq, h _ H1 R1 x1 (itOk_enum q)⟩
theorem pi_zipS {e2 : Expr} {elts : List Expr} {kk : Nat} {ta : TA} (hg : Gl X "zip") (hm : X.mg "zip" = none) (ha : PA X [e, e2] ta) (hs : starEach [e, e2] X.env = [(false, eval e X.env), (false, eval e2 X.env)] := by rfl) (hs2 : starEach [e2] X.env = [(false, eval e2 X.env)] := by rfl) :
    PI X (.Tuple elts kk tpos) (.Call (.Name "zip" p) [e, e2] [] pos) (fun σ H R => ta σ H fun vs H1 => ∃ k k' a b xs ys, vs = [.ref a, .ref b] ∧ SqS X.K k H1 a xs ∧ SqS X.K k' H1 b ys ∧ R (ItZ X.K k k' a b) H1) := by
  constructor
  intro pins s σ H R I h
  refine PyProof.Rows.Call_ (ld_blt I hg hm PyProof.Rows.boot_zip (PyProof.Rows.callWith_type1 (thn (ha.run pos pins s σ H _ I h) fun us s1 ⟨vs, H1, I1, r1, q1⟩ => ?_) (by rw [hs, hs2]) (by rw [hs2]; rfl)))
  obtain ⟨k, k', a, b, xs, ys, ex, hq, hr, q⟩ := q1
  subst ex
  obtain ⟨u, u', e3, ru, ru'⟩ := vals2 r1
  subst e3; cases ru; cases ru'
  obtain ⟨its, rv, pl, hz⟩ := srcI I1 hq
  obtain ⟨jts, rw', pl', hz'⟩ := srcI I1 hr
  have lt_ : ∀ (k : Sk) (a : Addr) (its : Array Value), IsS k s1.heap a its → a < s1.heap.objs.size := fun k a its pl => by
    cases k
    · obtain ⟨o, e, _⟩ := pl; exact Heap.lt_size e
    · obtain ⟨o, e, _⟩ := pl; exact Heap.lt_size e
  have la := lt_ k a _ pl
  have lb := lt_ k' b _ pl'
  refine zip_begins2 (begS k a its.toArray) (begS k' b jts.toArray) pl pl' fun h' g1 g2 g3 g4 g5 _ hk => wpAny_pyIter_zip g1 ?_
  have S : ZSep (s1.heap.objs.size + 4) (s1.heap.objs.size + 2) (s1.heap.objs.size + 3) s1.heap.objs.size (s1.heap.objs.size + 1) a b :=
    ⟨zip_sep2 (fun c hc => by rw [List.mem_singleton.mp hc]; exact la) (fun c hc => by rw [List.mem_singleton.mp hc]; exact lb), Nat.ne_of_lt la, Nat.ne_of_lt (Nat.lt_succ_of_lt lb)⟩
  refine ⟨_, [s1.heap.objs.size + 4, s1.heap.objs.size + 2, s1.heap.objs.size + 3, s1.heap.objs.size, s1.heap.objs.size + 1], _, _, H1, rfl, Inv.kept (t' := s1.toks) I1 hk, turnZ S, ⟨g1, g2, ⟨_, _, g3⟩, itS0 g4, itS0 g5⟩, fun c hc => ?_, q⟩
  have hle : s1.heap.objs.size ≤ c := by
    simp only [List.mem_cons, List.not_mem_nil, or_false] at hc
    rcases hc with rfl | rfl | rfl | rfl | rfl
    · exact Nat.le_add_right _ _
    · exact Nat.le_add_right _ _
    · exact Nat.le_add_right _ _
    · exact Nat.le_refl _
    · exact Nat.le_add_right _ _
  exact I1.fpOk hle (I1.hok.fresh hle)
theorem qi_zip {e2 : Expr} {elts : List Expr} {kk : Nat} (hg : Gl X "zip") (hm : X.mg "zip" = none) (ha : QKis X F [e, e2] mks) (hs : starEach [e, e2] X.env = [(false, eval e X.env), (false, eval e2 X.env)] := by rfl) (hs2 : starEach [e2] X.env = [(false, eval e2 X.env)] := by rfl) :
    QI X F (.Tuple elts kk tpos) (.Call (.Name "zip" p) [e, e2] [] pos) (iFnK zp mks) := by
  refine (pi_zipS hg hm ha hs hs2).imp fun σ H Q ⟨T, ρ, R, h⟩ => ⟨T, ρ, R, ?_⟩
  unfold iFnK at h
  cases e1 : mks ρ with
  | no => rw [e1] at h; exact h.elim
  | er x ρ' => rw [e1] at h; exact h
  | ok ds ρ1 =>
    rw [e1] at h
    intro vs H1 R1 x1 q1
    have h : GI X.K F T H σ ρ Q (opt ρ1 (zp ds)) := h
    cases q1 with
    | nil => exact h.elim
    | @cons v1 vs1 d ds r1 rr =>
      cases rr with
      | nil => exact h.elim
      | @cons v2 vs2 d2 ds2 r2 rr =>
        cases rr with
        | cons _ _ => exact h.elim
        | nil =>
          have h : GI X.K F T H σ ρ Q (opt ρ1 ((itL d).bind fun xs => (itL d2).map fun ys => zipD xs ys)) := h
          cases e2 : itL d with
          | none => rw [e2] at h; exact h.elim
          | some es =>
            cases e3 : itL d2 with
            | none => rw [e2, e3] at h; exact h.elim
            | some es2 =>
              rw [e2, e3] at h
              obtain ⟨k, a, ev, q⟩ := r1.kind R1.keep e2
              obtain ⟨k', b, ev', q'⟩ := r2.kind R1.keep e3
              obtain ⟨xs, sq, _⟩ := q _ _ (Le.refl _ _) R1.keep
              obtain ⟨ys, sq', _⟩ := q' _ _ (Le.refl _ _) R1.keep
              exact ⟨k, k', a, b, xs, ys, by rw [ev, ev'], sq, sq', h _ H1 R1 x1 (itOk_zip q q')⟩
end
end Vx
set_option maxHeartbeats 2000000
namespace Vx
open PySem PySem.Spec L2
section
variable {K : PySem.W.Frag} {F : Fc} {t : Tg} {ws : List Nat} {body : M Fl} {it : M (List D)} {mc : M Bool}
theorem liftFor {D : Ends} {σ : St} {H : Hp} (h : liftS K F (sFor it t body) D σ H) : tFor (liftI K F it) (liftG K F t ws) (liftS K F body) D σ H := by
  obtain ⟨ρ, R, h⟩ := h
  refine ⟨noT, ρ, R, ?_⟩
  unfold sFor at h
  cases e1 : it ρ with
  | no => rw [e1] at h; exact h.elim
  | er x ρ' => rw [e1] at h; exact ErS.toP h
  | ok ds ρ1 =>
    rw [e1] at h
    rw [Rs.bind_ok] at h
    intro J H1 R1 x1 ok
    refine ⟨fun i m σ' H' => m = ds.length - i ∧ i ≤ ds.length ∧ ∃ ρ', Rel K F noT H' σ' ρ' ∧ Le (Fb F noT σ ρ1) H1 (Fb F noT σ' ρ') H' ∧ GS K F H' σ' ρ' D (forI t body (ds.drop i) ρ'),
      ⟨ds.length, rfl, Nat.zero_le _, ρ1, R1, Le.refl _ _, h.back x1⟩, ?_⟩
    rintro i m σ2 H2 ⟨rfl, hi, ρ2, R2, l2, g2⟩
    obtain ⟨go, stop⟩ := ok i _ H2 l2 (fun b z => R2.fbd z) R2.keep
    by_cases hlt : i < ds.length
    · refine .inr ?_
      have ed : ds.drop i = ds[i] :: ds.drop (i + 1) := List.drop_eq_getElem_cons hlt
      obtain ⟨hgo, hy⟩ := go ds[i] (List.getElem?_eq_getElem hlt)
      rw [ed] at g2
      refine ⟨hgo, fun σ' H' => ∃ ρ', Rel K F noT H' σ' ρ' ∧ Le (Fb F noT σ ρ1) H1 (Fb F noT σ' ρ') H' ∧ GS K F H' σ' ρ' D (forI t body (ds.drop (i + 1)) ρ'), fun σ' H' n => ⟨ds.length - (i + 1), by omega, rfl, hlt, n⟩, fun x H3 y => ?_⟩
      obtain ⟨gr, rx⟩ := hy x H3 y
      have R3 := R2.grow gr
      have x3 : Ext σ2 ρ2 H2 σ2 ρ2 H3 := Ext.grow gr
      have g2 : GS K F H2 σ2 ρ2 D (match t ds[i] ρ2 with
        | none => .no
        | some ρ1 => (body ρ1).bind fun f ρ2 => match f with
          | .nx => forI t body (ds.drop (i + 1)) ρ2
          | .ct => forI t body (ds.drop (i + 1)) ρ2
          | .bk => .ok .nx ρ2
          | .rt x => .ok (.rt x) ρ2) := g2
      cases e2 : t ds[i] ρ2 with
      | none => rw [e2] at g2; exact g2.elim
      | some ρ3 =>
        rw [e2] at g2
        dsimp only at g2
        refine ⟨noT, ρ2, ds[i], R3, rx, ρ3, e2, fun σ4 H4 R4 x4 _ => ⟨ρ3, R4, ?_⟩⟩
        have x24 : Ext σ2 ρ2 H2 σ4 ρ3 H4 := x3.trans x4
        cases e3 : body ρ3 with
        | no => rw [e3] at g2; exact g2.elim
        | er z ρ' => rw [e3] at g2; exact ErS.back (show ErS K F H2 σ2 ρ2 z ρ' from g2) x24
        | ok f ρ4 =>
          rw [e3] at g2
          rw [Rs.bind_ok] at g2
          have nxt : GS K F H2 σ2 ρ2 D (forI t body (ds.drop (i + 1)) ρ4) → ∀ σ' H', Rel K F noT H' σ' ρ4 → Ext σ4 ρ3 H4 σ' ρ4 H' → ∃ ρ', Rel K F noT H' σ' ρ' ∧ Le (Fb F noT σ ρ1) H1 (Fb F noT σ' ρ') H' ∧ GS K F H' σ' ρ' D (forI t body (ds.drop (i + 1)) ρ') := fun g σ' H' R' x' =>
            ⟨ρ4, R', l2.trans ((x24.trans x').fb fun _ z => .inl z), g.back (x24.trans x')⟩
          cases f with
          | nx => exact nxt g2
          | ct => exact nxt g2
          | bk => exact fun σ' H' R' x' => g2 σ' H' R' (x24.trans x')
          | rt op => exact fun σ' v H' p => g2 σ' v H' (p.back x24)
    · have en : ds.length = i := by omega
      refine .inl ⟨stop en, ?_⟩
      rw [List.drop_eq_nil_of_le (Nat.le_of_eq en)] at g2
      exact g2 σ2 H2 R2 (Ext.refl ..)
def sWhile (n : Nat) (c : M Bool) (body : M Fl) : M Fl := whI c body n
theorem liftWhile {n : Nat} {D : Ends} {σ : St} {H : Hp} (h : liftS K F (sWhile n mc body) D σ H) : tWhile (liftT K F mc) (liftS K F body) D σ H := by
  obtain ⟨ρ, R, h⟩ := h
  refine ⟨fun m σ H => ∃ ρ, Rel K F noT H σ ρ ∧ GS K F H σ ρ D (whI mc body m ρ), ⟨n, ρ, R, h⟩, ?_⟩
  rintro m σ1 H1 ⟨ρ1, R1, g⟩
  refine ⟨noT, ρ1, R1, ?_⟩
  cases m with
  | zero => exact g.elim
  | succ m =>
    unfold whI at g
    cases e1 : mc ρ1 with
    | no => rw [e1] at g; exact g.elim
    | er x ρ' => rw [e1] at g; exact ErS.toP g
    | ok k ρ2 =>
      rw [e1] at g
      rw [Rs.bind_ok] at g
      intro H2 R2 x2
      cases k with
      | false =>
        rw [if_neg Bool.false_ne_true] at g ⊢
        exact g σ1 H2 R2 x2
      | true =>
        rw [if_pos rfl] at g ⊢
        refine ⟨fun σ' H' => ∃ ρ', Rel K F noT H' σ' ρ' ∧ GS K F H' σ' ρ' D (whI mc body m ρ'), fun σ' H' q => ⟨m, Nat.lt_succ_self m, q⟩, ρ2, R2, ?_⟩
        cases e2 : body ρ2 with
        | no => rw [e2] at g; exact g.elim
        | er x ρ' => rw [e2] at g; exact ErS.back (show ErS K F H1 σ1 ρ1 x ρ' from g) x2
        | ok f ρ3 =>
          rw [e2] at g
          rw [Rs.bind_ok] at g
          cases f with
          | nx => exact fun σ' H' R' x' => ⟨ρ3, R', g.back (x2.trans x')⟩
          | ct => exact fun σ' H' R' x' => ⟨ρ3, R', g.back (x2.trans x')⟩
          | bk => exact fun σ' H' R' x' => g σ' H' R' (x2.trans x')
          | rt op => exact fun σ' v H' p => g σ' v H' (p.back x2)
end
section
variable {X : Cx} {F : Fc} {pos : Pos} {tg iter c : Expr} {bd : List Stmt} {t : Tg} {ws : List Nat} {body : M Fl} {it : M (List D)} {mc : M Bool}
theorem qs_for (hp : PassesOwn (model X.prog X.w) X.A X.env X.xe) (hc : X.calm = true) (hi : QI X F tg iter it) (hg : QG X F tg t ws) (hb : QSs X F bd body) (hs : ∀ x, foldedSetIterable iter X.env x = pure x := by intro _; rfl) :
    QS X F (.For tg iter bd [] pos) (sFor it t body) := (ps_for hp hc hi hg hb hs).imp fun _ _ _ h => liftFor h
theorem qs_while (n : Nat) (hp : PassesOwn (model X.prog X.w) X.A X.env X.xe) (hc : QT X F c mc) (hb : QSs X F bd body) : QS X F (.While c bd [] pos) (sWhile n mc body) := (ps_while hp hc hb).imp fun _ _ _ h => liftWhile h
end
theorem unS_len (ρ : Ev) : ∀ vs, (unS ρ vs).length = ρ.length
  | [] => rfl
  | v :: vs => by unfold unS; rw [List.length_set, unS_len ρ vs]
theorem bkS_len (ρ ρ' : Ev) : ∀ vs, (bkS ρ ρ' vs).length = ρ'.length
  | [] => rfl
  | v :: vs => by unfold bkS; rw [List.length_set, bkS_len ρ ρ' vs]
theorem unS_in (ρ : Ev) {i : Nat} (hi : i < ρ.length) : ∀ {vs}, i ∈ vs → (unS ρ vs)[i]? = some .un
  | v :: vs, h => by
    unfold unS
    by_cases e : v = i
    · subst e; rw [List.getElem?_set_self (by rw [unS_len]; exact hi)]
    · rw [List.getElem?_set_ne e]
      exact unS_in ρ hi ((List.mem_cons.mp h).resolve_left (Ne.symm e))
theorem unS_out (ρ : Ev) {i : Nat} : ∀ {vs}, i ∉ vs → (unS ρ vs)[i]? = ρ[i]?
  | [], _ => rfl
  | v :: vs, h => by
    unfold unS
    rw [List.getElem?_set_ne fun e => h (by rw [e]; exact List.mem_cons_self)]
    exact unS_out ρ fun z => h (List.mem_cons_of_mem _ z)
theorem bkS_in (ρ ρ' : Ev) {i : Nat} (hi : i < ρ'.length) : ∀ {vs}, i ∈ vs → (bkS ρ ρ' vs)[i]? = some (ρ[i]?.getD .un)
  | v :: vs, h => by
    unfold bkS
    by_cases e : v = i
    · subst e; rw [List.getElem?_set_self (by rw [bkS_len]; exact hi)]
    · rw [List.getElem?_set_ne e]
      exact bkS_in ρ ρ' hi ((List.mem_cons.mp h).resolve_left (Ne.symm e))
theorem bkS_out (ρ ρ' : Ev) {i : Nat} : ∀ {vs}, i ∉ vs → (bkS ρ ρ' vs)[i]? = ρ'[i]?
  | [], _ => rfl
  | v :: vs, h => by
    unfold bkS
    rw [List.getElem?_set_ne fun e => h (by rw [e]; exact List.mem_cons_self)]
    exact bkS_out ρ ρ' fun z => h (List.mem_cons_of_mem _ z)
theorem wipe_in (σ : St) {i : Nat} (hi : i < σ.length) : ∀ {vs}, i ∈ vs → (wipe σ vs)[i]? = some none
  | v :: vs, h => by
    unfold wipe
    by_cases e : v = i
    · subst e; rw [List.getElem?_set_self (by rw [wipe_length]; exact hi)]
    · rw [List.getElem?_set_ne e]
      exact wipe_in σ hi ((List.mem_cons.mp h).resolve_left (Ne.symm e))
section
variable {K : PySem.W.Frag} {F : Fc} {T T' : Fo} {H H' : Hp} {σ : St} {ρ ρ' : Ev} {vs : List Nat}
theorem os_wipe {b : Addr} (h : OS (wipe σ vs) (unS ρ vs) b) : OS σ ρ b := by
  obtain ⟨i, h1, h2⟩ := h
  by_cases hv : i ∈ vs
  · by_cases hl : i < ρ.length
    · rw [unS_in ρ hl hv] at h1; cases h1
    · rw [List.getElem?_eq_none (by rw [unS_len]; omega)] at h1; cases h1
  · rw [unS_out ρ hv] at h1
    rw [wipe_out hv] at h2
    exact ⟨i, h1, h2⟩
theorem Rel.wipe (R : Rel K F T H σ ρ) : Rel K F T H (wipe σ vs) (unS ρ vs) := by
  have fl : ∀ b, Fb F T (L2.wipe σ vs) (unS ρ vs) b → Fb F T σ ρ b := fun b z => z.elim .inl fun z => z.elim (fun z => .inr (.inl z)) fun z => .inr (.inr (os_wipe z))
  have l : Le (Fb F T σ ρ) H (Fb F T (L2.wipe σ vs) (unS ρ vs)) H := Le.less fl
  have out : ∀ (i : Nat) s, (unS ρ vs)[i]? = some s → s ≠ .un → i ∉ vs ∧ ρ[i]? = some s := fun i s h n => by
    by_cases hv : i ∈ vs
    · have hl : i < ρ.length := by have := (List.getElem?_eq_some_iff.mp h).1; rwa [unS_len] at this
      rw [unS_in ρ hl hv] at h; cases h; exact absurd rfl n
    · rw [unS_out ρ hv] at h; exact ⟨hv, h⟩
  have own : ∀ (i : Nat), OwnS (unS ρ vs)[i]? = true → i ∉ vs ∧ OwnS ρ[i]? = true := fun i h => by
    obtain ⟨d, e | e⟩ := ownS_cases h
    · obtain ⟨a, b⟩ := out i _ e (fun z => nomatch z); exact ⟨a, by rw [b]; rfl⟩
    · obtain ⟨a, b⟩ := out i _ e (fun z => nomatch z); exact ⟨a, by rw [b]; rfl⟩
  refine ⟨by rw [unS_len, wipe_length]; exact R.len, fun i d e => ?_, fun i d e => ?_, fun i d e => ?_, fun i d e => ?_, fun i j b h1 h2 h3 h4 => ?_, R.keep, R.dom, R.tdom, R.tabs⟩
  · obtain ⟨hv, e⟩ := out i _ e (fun z => nomatch z)
    obtain ⟨v, q1, q2⟩ := R.cl i d e
    exact ⟨v, by rw [wipe_out hv]; exact q1, RD.mono l _ _ q2⟩
  · obtain ⟨hv, e⟩ := out i _ e (fun z => nomatch z)
    obtain ⟨v, q1, q2⟩ := R.bo i d e
    exact ⟨v, by rw [wipe_out hv]; exact q1, q2.mono l⟩
  · obtain ⟨hv, e⟩ := out i _ e (fun z => nomatch z)
    obtain ⟨v, q1, q2, q3⟩ := R.ow i d e
    exact ⟨v, by rw [wipe_out hv]; exact q1, q2.mono l (fun _ h => h), q3⟩
  · obtain ⟨hv, e⟩ := out i _ e (fun z => nomatch z)
    obtain ⟨v, q0, q1, q2, q3⟩ := R.le i d e
    exact ⟨v, q0, by rw [wipe_out hv]; exact q1, q2.mono l (fun _ h => h), q3⟩
  · obtain ⟨v1, o1⟩ := own i h1
    obtain ⟨v2, o2⟩ := own j h3
    rw [wipe_out v1] at h2
    rw [wipe_out v2] at h4
    exact R.inj i j b o1 h2 o2 h4
theorem wip_own {s : Option Sl} (h : wipable s = true) : OwnS s = false ∧ ∃ x, s = some x := by
  cases s with
  | none => cases h
  | some s => cases s <;> first | (cases h; done) | exact ⟨rfl, _, rfl⟩
theorem os_unwipe {ρ1 : Ev} (wp : ∀ v ∈ vs, wipable ρ1[v]? = true) (hl : ρ.length = ρ1.length) {b : Addr} (h : OS σ (bkS ρ1 ρ vs) b) : OS (wipe σ vs) (unS ρ vs) b := by
  obtain ⟨i, h1, h2⟩ := h
  by_cases hv : i ∈ vs
  · obtain ⟨e1, s, e2⟩ := wip_own (wp i hv)
    have hi : i < ρ.length := by rw [hl]; exact (List.getElem?_eq_some_iff.mp e2).1
    rw [bkS_in ρ1 ρ hi hv] at h1
    rw [e2] at e1
    rw [e2] at h1
    have h1 : OwnS (some s) = true := h1
    rw [e1] at h1; cases h1
  · rw [bkS_out ρ1 ρ hv] at h1
    exact ⟨i, by rw [unS_out ρ hv]; exact h1, by rw [wipe_out hv]; exact h2⟩
theorem os_same {ρ1 : Ev} (wp : ∀ v ∈ vs, wipable ρ1[v]? = true) {b : Addr} (h : OS σ ρ1 b) : OS (wipe σ vs) (unS ρ1 vs) b := by
  obtain ⟨i, h1, h2⟩ := h
  by_cases hv : i ∈ vs
  · rw [(wip_own (wp i hv)).1] at h1; cases h1
  · exact ⟨i, by rw [unS_out ρ1 hv]; exact h1, by rw [wipe_out hv]; exact h2⟩
/-- behind the block -/
theorem Rel.unwipe {ρ1 : Ev} {T1 : Fo} {H1 : Hp} (R1 : Rel K F T1 H1 σ ρ1) (wp : ∀ v ∈ vs, wipable ρ1[v]? = true) (R : Rel K F T H (L2.wipe σ vs) (unS ρ vs)) (l : Le (Fb F T1 σ ρ1) H1 (Fb F T (L2.wipe σ vs) (unS ρ vs)) H) : Rel K F T H σ (bkS ρ1 ρ vs) := by
  have hl : ρ.length = ρ1.length := by
    have := R.len
    rw [unS_len, wipe_length] at this
    rw [this, R1.len]
  have fl : ∀ b, Fb F T σ (bkS ρ1 ρ vs) b → Fb F T (L2.wipe σ vs) (unS ρ vs) b := fun b z => z.elim .inl fun z => z.elim (fun z => .inr (.inl z)) fun z => .inr (.inr (os_unwipe wp hl z))
  have l2 : Le (Fb F T (L2.wipe σ vs) (unS ρ vs)) H (Fb F T σ (bkS ρ1 ρ vs)) H := Le.less fl
  have l3 := l.trans l2
  have inn : ∀ (i : Nat) s, i ∈ vs → (bkS ρ1 ρ vs)[i]? = some s → ρ1[i]? = some s := fun i s hv e => by
    obtain ⟨_, x, e2⟩ := wip_own (wp i hv)
    have hi : i < ρ.length := by rw [hl]; exact (List.getElem?_eq_some_iff.mp e2).1
    rw [bkS_in ρ1 ρ hi hv, e2] at e
    rw [e2]; exact e
  have nown : ∀ (i : Nat), i ∈ vs → OwnS (bkS ρ1 ρ vs)[i]? = false := fun i hv => by
    cases q : (bkS ρ1 ρ vs)[i]? with
    | none => rfl
    | some s => rw [← inn i s hv q]; exact (wip_own (wp i hv)).1
  refine ⟨by rw [bkS_len, hl]; exact R1.len, fun i d e => ?_, fun i d e => ?_, fun i d e => ?_, fun i d e => ?_, fun i j b h1 h2 h3 h4 => ?_, R.keep, R.dom, R.tdom, R.tabs⟩
  · by_cases hv : i ∈ vs
    · obtain ⟨v, q1, q2⟩ := R1.cl i d (inn i _ hv e)
      exact ⟨v, q1, RD.mono l3 _ _ q2⟩
    · rw [bkS_out ρ1 ρ hv] at e
      obtain ⟨v, q1, q2⟩ := R.cl i d (by rw [unS_out ρ hv]; exact e)
      exact ⟨v, by rw [wipe_out hv] at q1; exact q1, RD.mono l2 _ _ q2⟩
  · by_cases hv : i ∈ vs
    · obtain ⟨v, q1, q2⟩ := R1.bo i d (inn i _ hv e)
      exact ⟨v, q1, q2.mono l3⟩
    · rw [bkS_out ρ1 ρ hv] at e
      obtain ⟨v, q1, q2⟩ := R.bo i d (by rw [unS_out ρ hv]; exact e)
      exact ⟨v, by rw [wipe_out hv] at q1; exact q1, q2.mono l2⟩
  · by_cases hv : i ∈ vs
    · have := nown i hv
      rw [e] at this; cases this
    · rw [bkS_out ρ1 ρ hv] at e
      obtain ⟨v, q1, q2, q3⟩ := R.ow i d (by rw [unS_out ρ hv]; exact e)
      exact ⟨v, by rw [wipe_out hv] at q1; exact q1, q2.mono l2 (fun _ h => h), q3⟩
  · by_cases hv : i ∈ vs
    · have := nown i hv
      rw [e] at this; cases this
    · rw [bkS_out ρ1 ρ hv] at e
      obtain ⟨v, q0, q1, q2, q3⟩ := R.le i d (by rw [unS_out ρ hv]; exact e)
      exact ⟨v, q0, by rw [wipe_out hv] at q1; exact q1, q2.mono l2 (fun _ h => h), q3⟩
  · have v1 : i ∉ vs := fun z => by rw [nown i z] at h1; cases h1
    have v2 : j ∉ vs := fun z => by rw [nown j z] at h3; cases h3
    rw [bkS_out ρ1 ρ v1] at h1
    rw [bkS_out ρ1 ρ v2] at h3
    exact R.inj i j b (by rw [unS_out ρ v1]; exact h1) (by rw [wipe_out v1]; exact h2) (by rw [unS_out ρ v2]; exact h3) (by rw [wipe_out v2]; exact h4)
end
def Fc.nox (F : Fc) : Fc := { F with W := fun _ _ _ _ => False }
section
variable {K : PySem.W.Frag} {F : Fc} {T : Fo} {H : Hp} {σ : St} {ρ : Ev}
theorem Rel.nox (R : Rel K F T H σ ρ) : Rel K F.nox T H σ ρ := ⟨R.len, R.cl, R.bo, R.ow, R.le, R.inj, R.keep, R.dom, R.tdom, R.tabs⟩
theorem Rel.unnox (R : Rel K F.nox T H σ ρ) : Rel K F T H σ ρ := ⟨R.len, R.cl, R.bo, R.ow, R.le, R.inj, R.keep, R.dom, R.tdom, R.tabs⟩
end
theorem wipe_eq {vs ws : List Nat} {σ σ' : St} (h : Wr ws (L2.wipe σ vs) σ') (hw : ∀ w ∈ ws, w ∈ vs) : L2.wipe σ' vs = L2.wipe σ vs := by
  refine List.ext_getElem? fun i => ?_
  have hl : σ'.length = σ.length := by rw [h.1, wipe_length]
  by_cases hv : i ∈ vs
  · by_cases hi : i < σ.length
    · rw [wipe_in σ hi hv, wipe_in σ' (by rw [hl]; exact hi) hv]
    · rw [List.getElem?_eq_none (by rw [wipe_length]; omega), List.getElem?_eq_none (by rw [wipe_length]; omega)]
  · rw [wipe_out hv, h.2 i fun z => hv (hw i z)]
section
variable {K : PySem.W.Frag} {F : Fc} {t : Tg} {ws : List Nat} {tt : M Bool} {e : M Op} {it : M (List D)} {vs : List Nat}
theorem liftLc {σ : St} {H : Hp} {Q : VK} (hw : ∀ w ∈ ws, w ∈ vs) (h : liftE K F (mLc it t tt e vs) σ H Q) :
    tLc (liftI K F it) (liftG K F.nox t ws) (liftT K F.nox tt) (liftK K F.nox (mK e)) vs σ H Q := by
  obtain ⟨T, ρ, R, h⟩ := h
  refine ⟨T, ρ, R, ?_⟩
  unfold mLc at h
  cases e1 : it ρ with
  | no => rw [e1] at h; exact h.elim
  | er x ρ' => rw [e1] at h; exact h
  | ok ds ρ1 =>
    rw [e1] at h
    rw [Rs.bind_ok] at h
    intro J H1 R1 x1 ok D hD
    by_cases c : (vs.all fun v => wipable ρ1[v]?) = true
    · rw [if_pos c] at h
      have wp : ∀ v ∈ vs, wipable ρ1[v]? = true := List.all_eq_true.mp c
      cases e2 : lcI t tt e vs ds [] ρ1 with
      | no => rw [e2] at h; exact h.elim
      | er x ρ' => rw [e2] at h; exact h.elim
      | ok accF ρF =>
        rw [e2] at h
        dsimp only at h
        -- the new list is forbidden
        have hD0 : F.H0 D = none := R1.h0none hD
        let TD : Fo := fun b => T b ∨ b = D
        have gr : ∀ b o, H1 b = some o → upd H1 D (.lst []) b = some o := upd_grow hD
        have R1d : Rel K F TD (upd H1 D (.lst [])) σ ρ1 := R1.more (fun b z => z.imp id fun z => by subst z; exact ⟨hD, by rw [upd_same]; exact fun z => nomatch z⟩) gr
        have lD : Le (Fb F T σ ρ1) H1 (Fb F TD (L2.wipe σ vs) (unS ρ1 vs)) (upd H1 D (.lst [])) := ⟨fun b o q _ _ => gr b o q, fun b z => by
          rcases z with z | z | z
          · exact .inl (.inl z)
          · exact z.imp (fun z => .inr (.inl z)) fun z => by rw [z]; exact hD
          · exact .inl (.inr (.inr (os_wipe z))), grow_dom gr⟩
        have xw : Ext σ ρ1 H1 (L2.wipe σ vs) (unS ρ1 vs) (upd H1 D (.lst [])) := ⟨fun b o q _ _ => gr b o q, fun b z => .inl (os_wipe z), grow_dom gr⟩
        -- the state ahead of turn i
        let Wc : Nat → Hp → Prop := fun i H' => ∃ ρ' acc accD, Rel K F TD H' (L2.wipe σ vs) (unS ρ' vs) ∧ H' D = some (.lst acc) ∧ RDs K (Fb F TD (L2.wipe σ vs) (unS ρ' vs)) H' acc accD ∧
          Ext σ ρ1 H1 (L2.wipe σ vs) (unS ρ' vs) H' ∧ Le (Fb F T σ ρ1) H1 (Fb F TD (L2.wipe σ vs) (unS ρ' vs)) H' ∧ lcI t tt e vs (ds.drop i) accD ρ' = .ok accF ρF
        refine ⟨fun i m H' => m = ds.length - i ∧ i ≤ ds.length ∧ Wc i H', ⟨ds.length, rfl, Nat.zero_le _, ρ1, [], [], R1d.wipe, upd_same, .nil, xw, lD, e2⟩, ?_⟩
        rintro i m H2 ⟨rfl, hi, ρ2, acc, accD, R2, hacc, racc, x2, l2, g2⟩
        obtain ⟨go, stop⟩ := ok i _ H2 l2 (fun b z => R2.fbd z) R2.keep
        by_cases hlt : i < ds.length
        · refine .inr ?_
          have ed : ds.drop i = ds[i] :: ds.drop (i + 1) := List.drop_eq_getElem_cons hlt
          obtain ⟨hgo, hy⟩ := go ds[i] (List.getElem?_eq_getElem hlt)
          rw [ed] at g2
          refine ⟨hgo, Wc (i + 1), fun H' n => ⟨ds.length - (i + 1), by omega, rfl, hlt, n⟩, fun x H3 y => ?_⟩
          obtain ⟨gr3, rx⟩ := hy x H3 y
          have R3 := R2.grow gr3
          unfold lcI at g2
          cases q1 : t ds[i] (unS ρ2 vs) with
          | none => rw [q1] at g2; cases g2
          | some ρ3 =>
            rw [q1] at g2
            dsimp only at g2
            refine ⟨TD, unS ρ2 vs, ds[i], R3.nox, rx, ρ3, q1, fun σ4 H4 R4 x4 w4 => ⟨wipe_eq w4 hw, TD, ρ3, R4, ?_⟩⟩
            have we := wipe_eq w4 hw
            have x24 : Ext (L2.wipe σ vs) (unS ρ2 vs) H2 σ4 ρ3 H4 := (Ext.grow gr3).trans x4
            -- back to the block's own slots
            have back : ∀ {ρ5 : Ev} {H5 : Hp}, Rel K F TD H5 σ4 ρ5 → Ext σ4 ρ3 H4 σ4 ρ5 H5 → Rel K F TD H5 (L2.wipe σ vs) (unS ρ5 vs) ∧ Ext (L2.wipe σ vs) (unS ρ2 vs) H2 (L2.wipe σ vs) (unS ρ5 vs) H5 := fun {ρ5 H5} R5 x5 => by
              have r := R5.wipe (vs := vs)
              rw [we] at r
              refine ⟨r, (x24.trans x5).kept, fun b z => ?_, (x24.trans x5).dom⟩
              have z : OS (L2.wipe σ4 vs) (unS ρ5 vs) b := by rw [we]; exact z
              exact (x24.trans x5).os b (os_wipe z)
            have dst : ∀ {ρ5 : Ev} {H5 : Hp}, Ext σ4 ρ3 H4 σ4 ρ5 H5 → H5 D = some (.lst acc) := fun {ρ5 H5} x5 =>
              (x24.trans x5).kept D _ hacc rfl fun z => (R2.os z).2.1 (.inr rfl)
            have go1 : ∀ {ρ5 : Ev} {H5 : Hp}, Rel K F TD H5 σ4 ρ5 → Ext σ4 ρ3 H4 σ4 ρ5 H5 → lcI t tt e vs (ds.drop (i + 1)) accD ρ5 = .ok accF ρF → Wc (i + 1) H5 := fun {ρ5 H5} R5 x5 g5 => by
              obtain ⟨b1, b2⟩ := back R5 x5
              have l5 : Le (Fb F TD (L2.wipe σ vs) (unS ρ2 vs)) H2 (Fb F TD (L2.wipe σ vs) (unS ρ5 vs)) H5 := b2.fb fun _ z => .inl z
              exact ⟨ρ5, acc, accD, b1, dst x5, RDs.mono l5 _ _ racc, x2.trans b2, l2.trans l5, g5⟩
            cases q2 : tt ρ3 with
            | no => rw [q2] at g2; cases g2
            | er z ρ' => rw [q2] at g2; cases g2
            | ok k ρ5 =>
              rw [q2] at g2
              intro H5 R5 x5
              cases k with
              | false =>
                dsimp only at g2
                rw [if_neg Bool.false_ne_true]
                exact go1 R5.unnox x5 g2
              | true =>
                dsimp only at g2
                rw [if_pos rfl]
                refine ⟨TD, ρ5, R5, ?_⟩
                cases q3 : mK e ρ5 with
                | no => rw [q3] at g2; cases g2
                | er z ρ' => rw [q3] at g2; cases g2
                | ok d ρ6 =>
                  rw [q3] at g2
                  dsimp only at g2
                  by_cases cz : accD.length < sizeLine
                  · rw [if_pos cz] at g2
                    intro v H6 R6 x6 r6
                    have x46 := x5.trans x6
                    have h6 := dst x46
                    refine ⟨acc, h6, by rw [racc.length]; exact cz, ?_⟩
                    obtain ⟨b1, b2⟩ := back R6.unnox x46
                    have l6 : Le (Fb F TD (L2.wipe σ vs) (unS ρ2 vs)) H2 (Fb F TD (L2.wipe σ vs) (unS ρ6 vs)) H6 := b2.fb fun _ z => .inl z
                    -- the item comes behind
                    have fD : Fb F TD (L2.wipe σ vs) (unS ρ6 vs) D := .inr (.inl (.inr rfl))
                    have ne : ∀ b, b ≠ D → upd H6 D (.lst (acc ++ [v])) b = H6 b := fun b z => upd_ne z
                    have dm7 : ∀ b, H6 b ≠ none → upd H6 D (.lst (acc ++ [v])) b ≠ none := fun b z => by
                      by_cases q : b = D
                      · rw [q, upd_same]; exact fun z => nomatch z
                      · rw [ne b q]; exact z
                    have l7 : Le (Fb F TD (L2.wipe σ vs) (unS ρ6 vs)) H6 (Fb F TD (L2.wipe σ vs) (unS ρ6 vs)) (upd H6 D (.lst (acc ++ [v]))) := ⟨fun b o q _ n => by rw [ne b fun z => n (by rw [z]; exact fD)]; exact q, fun b z => .inl z, dm7⟩
                    have nos : ∀ b, OS (L2.wipe σ vs) (unS ρ6 vs) b → b ≠ D := fun b z q => (b1.os z).2.1 (by rw [q]; exact .inr rfl)
                    have R7 : Rel K F TD (upd H6 D (.lst (acc ++ [v]))) (L2.wipe σ vs) (unS ρ6 vs) := b1.to l7 (fun b z o q => by rw [ne b (nos b z)]; exact q) (fun b z => (b1.os z).2.1) (fun b z => dm7 b (b1.tdom b z)) (fun b o q _ n q2 => by
                      rw [ne b fun z => by rw [z, hD0] at q; cases q]; exact q2) dm7 fun z => tabs_lst z h6
                    have vd : RD K (Fb F TD (L2.wipe σ vs) (unS ρ6 vs)) H6 v d := RD.mono (Le.less fun b z => by
                      rcases z with z | z | z
                      · exact .inl z
                      · exact .inr (.inl z)
                      · have z : OS (L2.wipe σ4 vs) (unS ρ6 vs) b := by rw [we]; exact z
                        exact .inr (.inr (os_wipe z))) _ _ r6
                    have x7 : Ext σ ρ1 H1 (L2.wipe σ vs) (unS ρ6 vs) (upd H6 D (.lst (acc ++ [v]))) := by
                      have x8 := x2.trans b2
                      refine ⟨fun b o q t n => ?_, x8.os, fun b z => dm7 b (x8.dom b z)⟩
                      rw [ne b fun z => by rw [z, hD] at q; cases q]
                      exact x8.kept b o q t n
                    exact ⟨ρ6, acc ++ [v], accD ++ [d], R7, upd_same, RDs.mono l7 _ _ ((RDs.mono l6 _ _ racc).append (.cons vd .nil)), x7, (l2.trans l6).trans l7, g2⟩
                  · rw [if_neg cz] at g2; cases g2
        · have en : ds.length = i := by omega
          refine .inl ⟨stop en, ?_⟩
          rw [List.drop_eq_nil_of_le (Nat.le_of_eq en)] at g2
          unfold lcI at g2
          cases g2
          have hl : ρF.length = ρ1.length := by
            have := R2.len
            rw [unS_len, wipe_length] at this
            rw [this, R1.len]
          have RF : Rel K F TD H2 σ (bkS ρ1 ρF vs) := Rel.unwipe R1 wp R2 l2
          have tt_ : ∀ b, TTf T (.ref D) (.fr (.list accF)) b → TD b := fun b z => z.imp id fun ⟨_, _, z⟩ => by cases z; rfl
          have fl : ∀ b, Fb F (TTf T (.ref D) (.fr (.list accF))) σ (bkS ρ1 ρF vs) b → Fb F TD (L2.wipe σ vs) (unS ρF vs) b := fun b z => by
            rcases z with z | z | z
            · exact .inl z
            · exact .inr (.inl (tt_ b z))
            · exact .inr (.inr (os_unwipe wp hl z))
          refine h _ H2 ⟨RF.less tt_, x1.trans ⟨x2.kept, fun b z => x2.os b (os_unwipe wp hl z), x2.dom⟩, ⟨D, rfl, .inr ⟨_, rfl, rfl⟩, ⟨acc, hacc, RDs.mono (Le.less fl) _ _ racc⟩, fun z => R1.tdom D (.inl z) hD, hD0⟩, fun d a e1 e2 => ?_⟩
          cases e2
          cases q : H D with
          | none => rfl
          | some o => exact absurd hD (x1.dom D (by rw [q]; exact fun z => nomatch z))
    · rw [if_neg c] at h; exact h.elim
end
section
variable {X : Cx} {F : Fc} {elt tg iter : Expr} {ifs : List Expr} {scope : Scope} {own : List (Str × Nat)} {pos spos py : Pos} {t : Tg} {ws : List Nat} {tt : M Bool} {e : M Op} {it : M (List D)}
/-- the tests of a comprehension -/
theorem qts_nil : PTs X [] (liftT X.K F tYesM) := pts_nil.imp fun σ H Q ⟨T, ρ, R, h⟩ => h H R (Ext.refl ..)
theorem qts_one {c : Expr} {m : M Bool} (h : QT X F c m) : PTs X [c] (liftT X.K F m) := pts_one h
theorem qe_lc (hc : X.calm = true) (hN : X.N.Nodup) (hi : QI X F tg iter it) (ok : BlkOk X.N X.env.scope scope own) (hw : ∀ w ∈ ws, w ∈ own.map (·.2))
    (hg : ∀ s H C cl fp, QG (X.blk s H scope (compEnvC scope cl C X.env) fp) F.nox tg t ws) (ht : ∀ s H C cl fp, PTs (X.blk s H scope (compEnvC scope cl C X.env) fp) ifs (liftT X.K F.nox tt))
    (he : ∀ s H C cl fp, QE (X.blk s H scope (compEnvC scope cl C X.env) fp) F.nox elt e) (hs : ∀ x, foldedSetIterable iter X.env x = pure x := by intro _; rfl) :
    QE X F (.ListComp elt [⟨tg, iter, ifs, 0⟩] scope pos) (mLc it t tt e (own.map (·.2))) :=
  (pe_lc (g := liftG X.K F.nox t ws) (te := liftK X.K F.nox (mK e)) hc hN hi ok hg ht (fun s H C cl fp => liftK_ (he s H C cl fp)) hs).imp fun _ _ _ h => liftLc hw h
theorem qs_setLc {i : Nat} {y : Str} (hc : X.calm = true) (hN : X.N.Nodup) (hy : X.N[i]? = some y) (hyl : X.env.scope.names.lookup y = some .local) (hsw : swapsWith (.ListComp elt [⟨tg, iter, ifs, 0⟩] scope pos) (some (.Name y py)) spos.line X.env = pure true)
    (hi : QI X F tg iter it) (ok : BlkOk X.N X.env.scope scope own) (hw : ∀ w ∈ ws, w ∈ own.map (·.2))
    (hg : ∀ s H C cl fp, QG (X.blk s H scope (compEnvC scope cl C X.env) fp) F.nox tg t ws) (ht : ∀ s H C cl fp, PTs (X.blk s H scope (compEnvC scope cl C X.env) fp) ifs (liftT X.K F.nox tt))
    (he : ∀ s H C cl fp, QE (X.blk s H scope (compEnvC scope cl C X.env) fp) F.nox elt e) (hs : ∀ x, foldedSetIterable iter X.env x = pure x := by intro _; rfl) :
    QS X F (.Assign [.Name y py] (.ListComp elt [⟨tg, iter, ifs, 0⟩] scope pos) spos) (sSet i (mLc it t tt e (own.map (·.2)))) := by
  refine (ps_setLc (g := liftG X.K F.nox t ws) (te := liftK X.K F.nox (mK e)) hc hN hy hyl hsw hi ok hg ht (fun s H C cl fp => liftK_ (he s H C cl fp)) hs).imp fun D σ H h => ?_
  have q := liftSet h
  obtain ⟨T, ρ, R, q⟩ := q
  exact liftLc hw ⟨T, ρ, R, q⟩
end
end Vx
set_option maxHeartbeats 2000000
namespace Vx
open PySem PySem.Spec L2
/-- an argument that is read -/
def AR (K : PySem.W.Frag) (A L : Fo) (H : Hp) (v : V) (d : D) : Prop := RD K A H v d ∨ ∃ a, v = .ref a ∧ ((∃ ds xs, d = .list ds ∧ ((Rd H a (.lst xs) ∧ ¬ L a) ∨ KLst K a xs) ∧ RDs K A H xs ds) ∨ ∃ ks kvs, d = .dict ks ∧ H a = some (.dK kvs) ∧ ¬ L a ∧ RKs K A H kvs ks)
inductive ArgsR (K : PySem.W.Frag) (A L : Fo) (H : Hp) : List Md → List V → List D → List Addr → Prop
  | nil : ArgsR K A L H [] [] [] []
  | pl {v : V} {d : D} {ms : List Md} {vs : List V} {ds : List D} {ls : List Addr} : AR K A L H v d → ArgsR K A L H ms vs ds ls → ArgsR K A L H (.pl :: ms) (v :: vs) (d :: ds) ls
  | kp {v : V} {d : D} {ms : List Md} {vs : List V} {ds : List D} {ls : List Addr} : RD K A H v d → ArgsR K A L H ms vs ds ls → ArgsR K A L H (.kp :: ms) (v :: vs) (d :: ds) ls
  | mu {a : Addr} {d : D} {ms : List Md} {vs : List V} {ds : List D} {ls : List Addr} : OB K A H a d → ArgsR K A L H ms vs ds ls → ArgsR K A L H (.mu :: ms) (.ref a :: vs) (d :: ds) (a :: ls)
structure Leave (tb : List (Addr × Str)) (ls : List Addr) (H H' : Hp) : Prop where
  kept : ∀ b o, H b = some o → nTb o = true → b ∉ ls → H' b = some o
  dom : ∀ b, H b ≠ none → H' b ≠ none
  tabs : LamX.Tabs tb H'
inductive Outs (K : PySem.W.Frag) (A : Fo) (H : Hp) : List Addr → List D → Prop
  | nil : Outs K A H [] []
  | cons {a : Addr} {d : D} {ls : List Addr} {ds : List D} : OB K A H a d → Outs K A H ls ds → Outs K A H (a :: ls) (d :: ds)
def ResR (K : PySem.W.Frag) (A : Fo) (H H' : Hp) (v : V) (d : D) : Bool → Prop
  | true => ∃ a, v = .ref a ∧ H a = none ∧ OB K (fun b => A b ∨ b = a) H' a d
  | false => RD K A H' v d
def GF (K : PySem.W.Frag) (cn : Str → Addr) (tb : List (Addr × Str)) (A : Fo) (H : Hp) (ls : List Addr) (Q : VK) (E : XK) : FR → Prop
  | .ok fr d outs => ∀ v H', Leave tb ls H H' → Outs K (fun b => A b ∨ (fr = true ∧ v = .ref b)) H' ls outs → ResR K A H H' v d fr → Q v H'
  | .er x outs => ∀ c dd H', Leave tb ls H H' → Outs K A H' ls outs → ErOk cn x c dd H' → E c dd H'
  | .no => False
def spV (K : PySem.W.Frag) (cn : Str → Addr) (tb : List (Addr × Str)) (md : List Md) (g : List D → FR) : Sp := fun vs H Q E => LamX.Tabs tb H ∧ ∃ (A : Fo) (ds : List D) (ls : List Addr), (∀ b, A b → H b ≠ none) ∧ (∀ a ∈ ls, A a) ∧ ls.Nodup ∧ ArgsR K A (· ∈ ls) H md vs ds ls ∧ GF K cn tb A H ls Q E (g ds)
def ltOf : List Md → List V → Nat → Option Addr
  | .mu :: _, .ref a :: _, 0 => some a
  | _ :: ms, _ :: vs, i + 1 => ltOf ms vs i
  | _, _, _ => none
section
variable {K : PySem.W.Frag} {A L : Fo} {H H' : Hp} {md : List Md} {vs : List V} {ds : List D} {ls : List Addr}
theorem ArgsR.len (h : ArgsR K A L H md vs ds ls) : vs.length = md.length ∧ ds.length = md.length ∧ (entA md ds).length = md.length := by
  induction h with
  | nil => exact ⟨rfl, rfl, rfl⟩
  | pl _ _ ih => exact ⟨congrArg (· + 1) ih.1, congrArg (· + 1) ih.2.1, congrArg (· + 1) ih.2.2⟩
  | kp _ _ ih => exact ⟨congrArg (· + 1) ih.1, congrArg (· + 1) ih.2.1, congrArg (· + 1) ih.2.2⟩
  | mu _ _ ih => exact ⟨congrArg (· + 1) ih.1, congrArg (· + 1) ih.2.1, congrArg (· + 1) ih.2.2⟩
/-- a lent object that is read -/
def BOr (K : PySem.W.Frag) (A L : Fo) (H : Hp) (a : Addr) : D → Prop
  | .list ds => ∃ xs, ((Rd H a (.lst xs) ∧ ¬ L a) ∨ KLst K a xs) ∧ RDs K A H xs ds
  | .dict ks => ∃ kvs, H a = some (.dK kvs) ∧ ¬ L a ∧ RKs K A H kvs ks
  | _ => False
theorem AR.slot {v : V} {d : D} (h : AR K A L H v d) (hL : ∀ b, L b → A b) : (isObjD d = true → ∃ a, v = .ref a ∧ BOr K A L H a d) ∧ (isObjD d = false → RD K A H v d) := by
  refine ⟨fun c => ?_, fun c => ?_⟩
  · rcases h with h | ⟨a, e, ⟨ds, xs, e2, q, r⟩ | ⟨ks, kvs, e2, q, n, r⟩⟩
    · cases h with
      | lstH r n q => exact ⟨_, rfl, _, .inl ⟨r, fun z => n (hL _ z)⟩, q⟩
      | lstK r q => exact ⟨_, rfl, _, .inr r, q⟩
      | dct r n q => exact ⟨_, rfl, _, r, fun z => n (hL _ z), q⟩
      | _ => cases c
    · subst e2; exact ⟨a, e, xs, q, r⟩
    · subst e2; exact ⟨a, e, kvs, q, n, r⟩
  · rcases h with h | ⟨a, e, ⟨ds, xs, e2, q, r⟩ | ⟨ks, kvs, e2, q, n, r⟩⟩
    · exact h
    · subst e2; cases c
    · subst e2; cases c
/-- what stands in the slots at the entry -/
theorem ArgsR.slots (h : ArgsR K A L H md vs ds ls) (hL : ∀ b, L b → A b) : ∀ (i : Nat),
    (∀ d, (entA md ds)[i]? = some (.cl d) → ∃ v, vs[i]? = some v ∧ RD K A H v d) ∧ (∀ d, (entA md ds)[i]? = some (.bo d) → ∃ a, vs[i]? = some (V.ref a) ∧ BOr K A L H a d) ∧
    (∀ d, (entA md ds)[i]? ≠ some (.ow d)) ∧ (∀ d, (entA md ds)[i]? = some (.le d) → ∃ a, vs[i]? = some (V.ref a) ∧ ltOf md vs i = some a ∧ OB K A H a d ∧ a ∈ ls) := by
  induction h with
  | nil => exact fun i => ⟨fun _ e => (nomatch e), fun _ e => (nomatch e), fun _ e => (nomatch e), fun _ e => (nomatch e)⟩
  | @pl v d ms vs ds ls r _ ih =>
    intro i
    cases i with
    | succ i => exact ih i
    | zero =>
      obtain ⟨c1, c2⟩ := r.slot hL
      show (∀ d', some (if isObjD d then Sl.bo d else .cl d) = some (.cl d') → _) ∧ (∀ d', some (if isObjD d then Sl.bo d else .cl d) = some (.bo d') → _) ∧ (∀ d', some (if isObjD d then Sl.bo d else .cl d) ≠ some (.ow d')) ∧ (∀ d', some (if isObjD d then Sl.bo d else .cl d) = some (.le d') → _)
      cases q : isObjD d with
      | true =>
        simp only [if_true]
        obtain ⟨a, e, b⟩ := c1 q
        exact ⟨fun _ e => (nomatch e), fun d' e' => by cases e'; exact ⟨a, by rw [e]; rfl, b⟩, fun _ e => (nomatch e), fun _ e => (nomatch e)⟩
      | false =>
        simp only [Bool.false_eq_true, if_false]
        exact ⟨fun d' e' => by cases e'; exact ⟨v, rfl, c2 q⟩, fun _ e => (nomatch e), fun _ e => (nomatch e), fun _ e => (nomatch e)⟩
  | @kp v d ms vs ds ls r _ ih =>
    intro i
    cases i with
    | succ i => exact ih i
    | zero => exact ⟨fun d' e' => by cases e'; exact ⟨v, rfl, r⟩, fun _ e => (nomatch e), fun _ e => (nomatch e), fun _ e => (nomatch e)⟩
  | @mu a d ms vs ds ls r _ ih =>
    intro i
    cases i with
    | succ i =>
      obtain ⟨h1, h2, h3, h4⟩ := ih i
      refine ⟨h1, h2, h3, fun d' e' => ?_⟩
      obtain ⟨b, q1, q2, q3, q4⟩ := h4 d' e'
      exact ⟨b, q1, q2, q3, List.mem_cons_of_mem _ q4⟩
    | zero => exact ⟨fun _ e => (nomatch e), fun _ e => (nomatch e), fun _ e => (nomatch e), fun d' e' => by cases e'; exact ⟨a, rfl, rfl, r, List.mem_cons_self⟩⟩
theorem ArgsR.lt (h : ArgsR K A L H md vs ds ls) : (∀ i a, ltOf md vs i = some a → a ∈ ls) ∧ ∀ a ∈ ls, ∃ i, ltOf md vs i = some a ∧ OwnS (entA md ds)[i]? = true ∧ vs[i]? = some (V.ref a) := by
  induction h with
  | nil => exact ⟨fun i a e => (by cases i <;> cases e), fun a h => (nomatch h)⟩
  | pl _ _ ih =>
    refine ⟨fun i a e => ?_, fun a h => ?_⟩
    · cases i with
      | zero => cases e
      | succ i => exact ih.1 i a e
    · obtain ⟨i, q⟩ := ih.2 a h
      exact ⟨i + 1, q⟩
  | kp _ _ ih =>
    refine ⟨fun i a e => ?_, fun a h => ?_⟩
    · cases i with
      | zero => cases e
      | succ i => exact ih.1 i a e
    · obtain ⟨i, q⟩ := ih.2 a h
      exact ⟨i + 1, q⟩
  | mu _ _ ih =>
    refine ⟨fun i a e => ?_, fun a h => ?_⟩
    · cases i with
      | zero => cases e; exact List.mem_cons_self
      | succ i => exact List.mem_cons_of_mem _ (ih.1 i a e)
    · rcases List.mem_cons.mp h with z | z
      · subst z; exact ⟨0, rfl, rfl, rfl⟩
      · obtain ⟨i, q⟩ := ih.2 a z
        exact ⟨i + 1, q⟩
theorem ArgsR.inj (h : ArgsR K A L H md vs ds ls) (nd : ls.Nodup) : ∀ (i j : Nat) b, OwnS (entA md ds)[i]? = true → vs[i]? = some (V.ref b) → OwnS (entA md ds)[j]? = true → vs[j]? = some (V.ref b) → i = j := by
  have mem : ∀ {md : List Md} {vs : List V} {ds : List D} {ls : List Addr}, ArgsR K A L H md vs ds ls → ∀ (i : Nat) b, OwnS (entA md ds)[i]? = true → vs[i]? = some (V.ref b) → b ∈ ls := by
    intro md vs ds ls h
    induction h with
    | nil => intro i b e; cases e
    | @pl v d ms vs ds ls r _ ih =>
      intro i b e1 e2
      cases i with
      | succ i => exact ih i b e1 e2
      | zero =>
        have e1 : OwnS (some (if isObjD d then Sl.bo d else .cl d)) = true := e1
        cases q : isObjD d <;> (rw [q] at e1; cases e1)
    | kp r _ ih =>
      intro i b e1 e2
      cases i with
      | succ i => exact ih i b e1 e2
      | zero => cases e1
    | mu r _ ih =>
      intro i b e1 e2
      cases i with
      | succ i => exact List.mem_cons_of_mem _ (ih i b e1 e2)
      | zero => cases e2; exact List.mem_cons_self
  induction h with
  | nil => intro i j b e; cases e
  | @pl v d ms vs ds ls r _ ih =>
    have no : OwnS (entA (.pl :: ms) (d :: ds))[0]? = false := by
      show OwnS (some (if isObjD d then Sl.bo d else .cl d)) = false
      cases isObjD d <;> rfl
    intro i j b e1 e2 e3 e4
    cases i with
    | zero => rw [no] at e1; cases e1
    | succ i =>
      cases j with
      | zero => rw [no] at e3; cases e3
      | succ j => exact congrArg (· + 1) (ih nd i j b e1 e2 e3 e4)
  | kp r _ ih =>
    intro i j b e1 e2 e3 e4
    cases i with
    | zero => cases e1
    | succ i =>
      cases j with
      | zero => cases e3
      | succ j => exact congrArg (· + 1) (ih nd i j b e1 e2 e3 e4)
  | mu r t ih =>
    obtain ⟨n1, n2⟩ := List.nodup_cons.mp nd
    intro i j b e1 e2 e3 e4
    cases i with
    | zero =>
      cases j with
      | zero => rfl
      | succ j => cases e2; exact absurd (mem t j _ e3 e4) n1
    | succ i =>
      cases j with
      | zero => cases e4; exact absurd (mem t i _ e1 e2) n1
      | succ j => exact congrArg (· + 1) (ih n2 i j b e1 e2 e3 e4)
/-- a body's constants -/
def fcOf (cn : Str → Addr) (tb : List (Addr × Str)) (A : Fo) (H : Hp) (md : List Md) (vs : List V) (ls : List Addr) (E : XK) : Fc := { B := fun b => A b ∧ b ∉ ls, lt := ltOf md vs, H0 := H, W := fun c dd _ H => E c dd H, cn := cn, tb := tb }
theorem getE_rep {ρ : Ev} {n i : Nat} {s : Sl} (h : (ρ ++ List.replicate n .un)[i]? = some s) (hs : s ≠ .un) : ρ[i]? = some s := by
  by_cases c : i < ρ.length
  · rwa [List.getElem?_append_left c] at h
  · rw [List.getElem?_append_right (by omega)] at h
    have := List.mem_of_getElem? h
    exact absurd (List.eq_of_mem_replicate this) hs
theorem start_get {N : List Str} {vs : List V} {i : Nat} {v : V} (h : vs[i]? = some v) : (start N vs)[i]? = some (some v) := by
  unfold L2.start
  rw [List.getElem?_append_left (by rw [List.length_map]; exact (List.getElem?_eq_some_iff.mp h).1), List.getElem?_map, h]
  rfl
theorem start_get' {N : List Str} {vs : List V} {i : Nat} {v : V} (h : (start N vs)[i]? = some (some v)) : vs[i]? = some v := by
  unfold L2.start at h
  by_cases c : i < vs.length
  · rw [List.getElem?_append_left (by rw [List.length_map]; exact c), List.getElem?_map] at h
    cases q : vs[i]? with
    | none => rw [q] at h; cases h
    | some u => rw [q] at h; cases h; rfl
  · rw [List.getElem?_append_right (by rw [List.length_map]; omega)] at h
    have := List.eq_of_mem_replicate (List.mem_of_getElem? h)
    cases this
theorem entry {cn : Str → Addr} {tb : List (Addr × Str)} {E : XK} {N : List Str} (hA : ∀ b, A b → H b ≠ none) (hl : ∀ a ∈ ls, A a) (nd : ls.Nodup) (h : ArgsR K A (· ∈ ls) H md vs ds ls) (hN : md.length ≤ N.length) (ht : LamX.Tabs tb H) :
    Rel K (fcOf cn tb A H md vs ls E) noT H (start N vs) (entA md ds ++ List.replicate (N.length - md.length) .un) := by
  have S := h.slots hl
  obtain ⟨lt1, lt2⟩ := h.lt
  have os1 : ∀ b, OS (start N vs) (entA md ds ++ List.replicate (N.length - md.length) .un) b → b ∈ ls := by
    rintro b ⟨i, h1, h2⟩
    obtain ⟨d, e | e⟩ := ownS_cases h1
    · exact absurd (getE_rep e (fun z => (nomatch z))) ((S i).2.2.1 d)
    · obtain ⟨a, q1, q2, q3, q4⟩ := (S i).2.2.2 d (getE_rep e (fun z => (nomatch z)))
      have := start_get (N := N) q1
      rw [h2] at this; cases this
      exact q4
  have own : ∀ i, OwnS (entA md ds ++ List.replicate (N.length - md.length) .un)[i]? = true → OwnS (entA md ds)[i]? = true := fun i h1 => by
    obtain ⟨d, e | e⟩ := ownS_cases h1
    · rw [getE_rep e (fun z => (nomatch z))]; rfl
    · rw [getE_rep e (fun z => (nomatch z))]; rfl
  have fl : ∀ b, Fb (fcOf cn tb A H md vs ls E) noT (start N vs) (entA md ds ++ List.replicate (N.length - md.length) .un) b → A b := fun b z => by
    rcases z with z | z | z
    · exact z.1
    · exact z.elim
    · exact hl b (os1 b z)
  have l : Le A H (Fb (fcOf cn tb A H md vs ls E) noT (start N vs) (entA md ds ++ List.replicate (N.length - md.length) .un)) H := Le.less fl
  refine ⟨?_, fun i d e => ?_, fun i d e => ?_, fun i d e => ?_, fun i d e => ?_, fun i j b h1 h2 h3 h4 => ?_, fun _ _ h _ _ => h, fun _ h => h, fun b z => z.elim (fun z => hA b z.1) fun z => z.elim, ht⟩
  · obtain ⟨n1, n2, n3⟩ := h.len
    unfold L2.start
    rw [List.length_append, List.length_append, List.length_replicate, List.length_replicate, List.length_map, n3, n1]
  · obtain ⟨v, q1, q2⟩ := (S i).1 d (getE_rep e (fun z => (nomatch z)))
    exact ⟨v, start_get q1, RD.mono l _ _ q2⟩
  · obtain ⟨a, q1, q2⟩ := (S i).2.1 d (getE_rep e (fun z => (nomatch z)))
    refine ⟨a, start_get q1, ?_⟩
    have nl : ∀ b, b ∉ ls → ¬ (fcOf cn tb A H md vs ls E).L b := fun b n ⟨i, z⟩ => n (lt1 i b z)
    cases d with
    | list es =>
      obtain ⟨xs, q3, q4⟩ := q2
      exact ⟨xs, q3.imp (fun z => ⟨z.1, nl a z.2⟩) id, RDs.mono l _ _ q4⟩
    | dict ks =>
      obtain ⟨xs, q3, q4, q5⟩ := q2
      exact ⟨xs, q3, nl a q4, RKs.mono l _ _ q5⟩
    | _ => exact q2.elim
  · exact absurd (getE_rep e (fun z => (nomatch z))) ((S i).2.2.1 d)
  · obtain ⟨a, q1, q2, q3, q4⟩ := (S i).2.2.2 d (getE_rep e (fun z => (nomatch z)))
    exact ⟨a, q2, start_get q1, q3.mono l (fun _ h => h), fun z => z.2 q4, fun z => z⟩
  · exact h.inj nd i j b (own i h1) (start_get' h2) (own j h3) (start_get' h4)
theorem outs_ok {F : Fc} {T : Fo} {σ : St} {ρ : Ev} (R : Rel K F T H' σ ρ) : ∀ {md : List Md} {vs : List V} {ds : List D} {ls : List Addr} {outs : List D} (n : Nat), ArgsR K A L H md vs ds ls → (∀ i a, ltOf md vs i = some a → F.lt (n + i) = some a) → outsA ρ md n = some outs →
    (∀ b ∈ ls, OS σ ρ b) ∧ ∀ A', (Le (Fb F T σ ρ) H' A' H') → Outs K A' H' ls outs
  | _, _, _, _, _, _, .nil, _, e => by
    cases e
    exact ⟨fun b h => (nomatch h), fun _ _ => .nil⟩
  | _, _, _, _, _, n, .pl (ms := ms) (vs := vs) r t, hl, e => outs_ok R (n + 1) t (fun i a q => by
      have := hl (i + 1) a q
      rw [← this]; congr 1; omega) e
  | _, _, _, _, _, n, .kp r t, hl, e => outs_ok R (n + 1) t (fun i a q => by
      have := hl (i + 1) a q
      rw [← this]; congr 1; omega) e
  | _, _, _, _, outs, n, .mu (a := a) (ms := ms) r t, hl, e => by
    have e : (leS ρ[n]?).bind (fun d => (outsA ρ ms (n + 1)).bind fun r => some (d :: r)) = some outs := e
    cases q : leS ρ[n]? with
    | none => rw [q] at e; cases e
    | some d =>
      rw [q] at e
      have e : (outsA ρ ms (n + 1)).bind (fun r => some (d :: r)) = some outs := e
      cases q2 : outsA ρ ms (n + 1) with
      | none => rw [q2] at e; cases e
      | some r =>
        rw [q2] at e; cases e
        have s : ρ[n]? = some (.le d) := by
          cases z : ρ[n]? with
          | none => rw [z] at q; cases q
          | some s => rw [z] at q; cases s <;> cases q; rfl
        obtain ⟨b, p0, p1, p2, p3, p4⟩ := R.le n d s
        have := hl 0 a rfl
        rw [Nat.add_zero, p0] at this; cases this
        obtain ⟨u1, u2⟩ := outs_ok R (n + 1) t (fun i a q => by
          have := hl (i + 1) a q
          rw [← this]; congr 1; omega) q2
        refine ⟨fun c h => ?_, fun A' l => .cons (p2.mono l fun _ h => h) (u2 A' l)⟩
        rcases List.mem_cons.mp h with z | z
        · subst z; exact ⟨n, by rw [s]; rfl, p1⟩
        · exact u1 c z
theorem res_fb {F : Fc} {T : Fo} {H' : Hp} {σ' : St} {ρ' : Ev} {op : Op} {b : Bool} {d : D} {v : V} {c : Addr} (p : VOk K F (TTf T v op) H' σ' ρ' v op) (q : resO ρ' op = some (b, d)) (hb : b = true) (hv : v = .ref c) : Fb F (TTf T v op) σ' ρ' c := by
  subst hb hv
  cases op with
  | val d' => cases q
  | fr d' => exact .inr (.inl (.inr ⟨_, rfl, rfl⟩))
  | sl i =>
    have hv : σ'[i]? = some (some (V.ref c)) := p
    have q3 : (match ρ'[i]? with
      | some (.ow d) => some (true, d)
      | some (.cl d) => some (false, d)
      | _ => none) = some (true, d) := q
    cases q4 : ρ'[i]? with
    | none => rw [q4] at q3; cases q3
    | some s =>
      rw [q4] at q3
      cases s with
      | ow d' => exact .inr (.inr ⟨i, by rw [q4]; rfl, hv⟩)
      | _ => cases q3
theorem exit_ok {cn : Str → Addr} {tb : List (Addr × Str)} {E : XK} {Q : VK} {σ : St} {ρ : Ev} {N : List Str} {m : M Fl} (hA : ∀ b, A b → H b ≠ none) (hl : ∀ a ∈ ls, A a) (nd : ls.Nodup) (h : ArgsR K A (· ∈ ls) H md vs ds ls) (hN : md.length ≤ N.length) (htb : LamX.Tabs tb H)
    (g : GF K cn tb A H ls Q E (runD md (N.length - md.length) m ds)) : liftS K (fcOf cn tb A H md vs ls E) m { nx := fun _ H' => Q .non H', rt := Q } (start N vs) H := by
  have R0 := entry (cn := cn) (tb := tb) (E := E) hA hl nd h hN htb
  refine ⟨_, R0, ?_⟩
  unfold runD at g
  rw [if_pos h.len.2.1] at g
  have lt1 := h.lt.1
  -- behind the body
  have leave : ∀ {T : Fo} {σ' : St} {ρ' : Ev} {H' : Hp}, Rel K (fcOf cn tb A H md vs ls E) T H' σ' ρ' → Leave tb ls H H' := fun R => ⟨fun b o q t n => R.keep b o q t fun ⟨i, z⟩ => n (lt1 i b z), fun b z => R.dom b z, R.tabs⟩
  have outs : ∀ {T : Fo} {σ' : St} {ρ' : Ev} {H' : Hp} {os : List D}, Rel K (fcOf cn tb A H md vs ls E) T H' σ' ρ' → outsA ρ' md 0 = some os → (∀ b, A b → Fb (fcOf cn tb A H md vs ls E) T σ' ρ' b) ∧ ∀ A' : Fo, (∀ b, A' b → Fb (fcOf cn tb A H md vs ls E) T σ' ρ' b) → Outs K A' H' ls os := fun {T σ' ρ' H' os} R e => by
    obtain ⟨u1, u2⟩ := outs_ok R 0 h (fun i a q => by rw [Nat.zero_add]; exact q) e
    have fl : ∀ b, A b → Fb (fcOf cn tb A H md vs ls E) T σ' ρ' b := fun b z => by
      by_cases c : b ∈ ls
      · exact .inr (.inr (u1 b c))
      · exact .inl ⟨z, c⟩
    exact ⟨fl, fun A' h => u2 A' (Le.less h)⟩
  cases q : m (entA md ds ++ List.replicate (N.length - md.length) .un) with
  | no => rw [q] at g; exact g.elim
  | er x ρ' =>
    rw [q] at g
    have g : GF K cn tb A H ls Q E (match outsA ρ' md 0 with
      | some outs => .er x outs
      | none => .no) := g
    cases q2 : outsA ρ' md 0 with
    | none => rw [q2] at g; exact g.elim
    | some os =>
      rw [q2] at g
      exact fun c dd σ' H' R' _ ek => g c dd H' (leave R') ((outs R' q2).2 A (outs R' q2).1) ek
  | ok f ρ' =>
    rw [q] at g
    cases f with
    | bk => exact g.elim
    | ct => exact g.elim
    | nx =>
      have g : GF K cn tb A H ls Q E (match outsA ρ' md 0 with
        | some outs => .ok false .none outs
        | none => .no) := g
      cases q2 : outsA ρ' md 0 with
      | none => rw [q2] at g; exact g.elim
      | some os =>
        rw [q2] at g
        exact fun σ' H' R' _ => g .non H' (leave R') ((outs R' q2).2 _ fun b z => z.elim ((outs R' q2).1 b) fun z => nomatch z.1) .non
    | rt op =>
      have g : GF K cn tb A H ls Q E (match resO ρ' op, outsA ρ' md 0 with
        | some (b, d), some outs => .ok b d outs
        | _, _ => .no) := g
      intro σ' v H' p
      cases q2 : outsA ρ' md 0 with
      | none =>
        rw [q2] at g
        cases q3 : resO ρ' op with
        | none => rw [q3] at g; exact g.elim
        | some w => rw [q3] at g; exact g.elim
      | some os =>
        rw [q2] at g
        cases q3 : resO ρ' op with
        | none => rw [q3] at g; exact g.elim
        | some w =>
          obtain ⟨b, d⟩ := w
          rw [q3] at g
          obtain ⟨fl, ou⟩ := outs p.rel q2
          refine g v H' (leave p.rel) (ou _ fun b z => z.elim (fl b) fun ⟨z1, z2⟩ => ?_) ?_
          · exact res_fb p.val q3 z1 z2
          cases op with
          | val d' => cases q3; exact RD.mono (Le.less fl) _ _ p.val
          | fr d' =>
            cases q3
            obtain ⟨a, e1, ta, ob, _, _⟩ := p.val
            exact ⟨a, e1, p.new _ a rfl e1, ob.mono (Le.less fun b z => z.elim (fl b) fun z => by rw [z]; exact .inr (.inl ta)) fun _ h => h⟩
          | sl i =>
            have hv : σ'[i]? = some (some v) := p.val
            have q3 : (match ρ'[i]? with
              | some (.ow d) => some (true, d)
              | some (.cl d) => some (false, d)
              | _ => none) = some (b, d) := q3
            cases q4 : ρ'[i]? with
            | none => rw [q4] at q3; cases q3
            | some s =>
              rw [q4] at q3
              cases s with
              | cl d' =>
                cases q3
                obtain ⟨u, p1, p2⟩ := p.rel.cl i d q4
                rw [hv] at p1; cases p1
                exact RD.mono (Le.less fl) _ _ p2
              | ow d' =>
                cases q3
                obtain ⟨a, p1, p2, p3, p4, p5⟩ := p.rel.ow i d q4
                rw [hv] at p1; cases p1
                exact ⟨a, rfl, p5, p2.mono (Le.less fun b z => z.elim (fl b) fun z => by rw [z]; exact .inr (.inr ⟨i, by rw [q4]; rfl, hv⟩)) fun _ h => h⟩
              | _ => cases q3
end
section
variable {P : Program} {w : World} {K : PySem.W.Frag} {mg : Str → Option Value} {base : Heap} {x qual : Str} {params : Arguments} {body : List Stmt} {scope : Scope} {dvs : List V} {kws : List (Str × V)} {f : Addr} {fd : FuncData} {N ps : List Str} {k : Nat}
theorem spV_len {cn : Str → Addr} {tb : List (Addr × Str)} {md : List Md} {g : List D → FR} (h : md.length = ps.length) : ∀ vs H Q E, spV K cn tb md g vs H Q E → vs.length = ps.length := fun vs H Q E ⟨_, A, ds, ls, _, _, _, r, _⟩ => r.len.1.trans h
/-- THE RULE for a def: its body goes as its mirror -/
theorem fn_ok {cn : Str → Addr} {tb : List (Addr × Str)} {md : List Md} {m : M Fl} (F : FunD K x qual params body scope dvs kws f fd) (S : FnScope N ps scope) (hm : md.length = ps.length) (hN : ps.length ≤ N.length)
    (hb : ∀ (cdv : Value) (A : Around) (outer : List Env) (s : Shared) (H : Hp) (E : XK) (F : Fc), Room k (A.deeper (PyProof.Rows.envOfC qual scope s.heap.objs.size f cdv)) → F.cn = cn → F.tb = tb → Takes (cxOf (L2.CX P w) P w K mg base N qual scope f cdv A outer s H E) F.W →
      QSs (cxOf (L2.CX P w) P w K mg base N qual scope f cdv A outer s H E) F body m) : FnOk P w K mg base (L2.CX P w) (k + 1) f fd ps (spV K cn tb md (runD md (N.length - md.length) m)) := by
  refine F.ok S (spV_len hm) fun cdv A outer s H vs Q E hr h => ?_
  obtain ⟨htb, A', ds, ls, hA, hl, nd, r, g⟩ := h
  exact ⟨_, hb cdv A outer s H E (fcOf cn tb A' H md vs ls E) hr rfl rfl (takes_of rfl rfl rfl rfl), exit_ok (σ := []) (ρ := []) hA hl nd r (by rw [hm]; exact hN) htb g⟩
end
end Vx
set_option maxHeartbeats 2000000
namespace Vx
open PySem PySem.Spec L2
/-- some own lists are shared -/
def Sh (ρ ρ' : Ev) : Prop := ∀ i : Nat, ρ'[i]? = ρ[i]? ∨ ∃ d, ρ[i]? = some (.ow d) ∧ ρ'[i]? = some (.cl d)
theorem Sh.rdS {ρ ρ' : Ev} (h : Sh ρ ρ') (i : Nat) : rdS ρ'[i]? = Vx.rdS ρ[i]? := by
  rcases h i with e | ⟨d, e1, e2⟩
  · rw [e]
  · rw [e1, e2]; rfl
theorem Sh.rd {ρ ρ' : Ev} (h : Sh ρ ρ') (x : Op) : rd ρ' x = Vx.rd ρ x := by
  cases x with
  | val d => rfl
  | fr d => rfl
  | sl i => exact h.rdS i
theorem Sh.own {ρ ρ' : Ev} (h : Sh ρ ρ') {i : Nat} (o : OwnS ρ'[i]? = true) : ρ'[i]? = ρ[i]? := by
  rcases h i with e | ⟨d, e1, e2⟩
  · exact e
  · rw [e2] at o; cases o
theorem Sh.trans {ρ ρ1 ρ2 : Ev} (a : Sh ρ ρ1) (b : Sh ρ1 ρ2) : Sh ρ ρ2 := fun i => by
  rcases b i with e | ⟨d, e1, e2⟩
  · rw [e]; exact a i
  · rcases a i with e3 | ⟨d', e3, e4⟩
    · exact .inr ⟨d, by rw [← e3]; exact e1, e2⟩
    · rw [e4] at e1; cases e1
theorem Sh.refl (ρ : Ev) : Sh ρ ρ := fun _ => .inl rfl
theorem Sh.one {ρ : Ev} {i : Nat} {d : D} (e : ρ[i]? = some (.ow d)) : Sh ρ (ρ.set i (.cl d)) := fun j => by
  by_cases h : j = i
  · subst h; exact .inr ⟨d, e, List.getElem?_set_self (List.getElem?_eq_some_iff.mp e).1⟩
  · exact .inl (List.getElem?_set_ne (Ne.symm h))
section
variable {K : PySem.W.Frag} {F : Fc} {T : Fo} {H : Hp} {σ : St}
/-- the prepared arguments -/
inductive PreA (K : PySem.W.Frag) (F : Fc) (T : Fo) (H : Hp) (σ : St) (ρ : Ev) : List Md → List V → List Op → List D → List Nat → Prop
  | nil : PreA K F T H σ ρ [] [] [] [] []
  | pl {ms vs xs ds is} {v : V} {x : Op} {d : D} : VOk K F T H σ ρ v x → rd ρ x = some d → PreA K F T H σ ρ ms vs xs ds is → PreA K F T H σ ρ (.pl :: ms) (v :: vs) (x :: xs) (d :: ds) is
  | kp {ms vs xs ds is} {v : V} {x : Op} {d : D} : RD K (Fb F T σ ρ) H v d → PreA K F T H σ ρ ms vs xs ds is → PreA K F T H σ ρ (.kp :: ms) (v :: vs) (x :: xs) (d :: ds) is
  | mu {ms vs xs ds is} {v : V} {i : Nat} {d : D} : σ[i]? = some (some v) → rdS ρ[i]? = some d → i ∉ is → PreA K F T H σ ρ ms vs xs ds is → PreA K F T H σ ρ (.mu :: ms) (v :: vs) (.sl i :: xs) (d :: ds) (i :: is)
theorem kp_sh {ρ ρ2 : Ev} {v : V} {x : Op} {d : D} (R : Rel K F T H σ ρ) (h : VOk K F T H σ ρ v x) (e : kp ρ x = some (d, ρ2)) : Rel K F T H σ ρ2 ∧ Ext σ ρ H σ ρ2 H ∧ Sh ρ ρ2 ∧ (x ≠ .fr d → RD K (Fb F T σ ρ2) H v d) := by
  cases x with
  | val d' => cases e; exact ⟨R, Ext.refl .., Sh.refl _, fun _ => h⟩
  | fr d' => cases e; exact ⟨R, Ext.refl .., Sh.refl _, fun z => absurd rfl z⟩
  | sl i =>
    have hv : σ[i]? = some (some v) := h
    have e : keepS i ρ ρ[i]? = some (d, ρ2) := e
    cases q : ρ[i]? with
    | none => rw [q] at e; cases e
    | some s =>
      rw [q] at e
      cases s with
      | cl d' =>
        cases e
        obtain ⟨u, q1, q2⟩ := R.cl i d q
        rw [hv] at q1; cases q1
        exact ⟨R, Ext.refl .., Sh.refl _, fun _ => q2⟩
      | ow d' =>
        cases e
        obtain ⟨r1, r2, r3⟩ := R.share q hv
        exact ⟨r1, r2, Sh.one q, fun _ => r3⟩
      | _ => cases e
theorem VOk.sh {ρ ρ2 : Ev} {v : V} {x : Op} (h : VOk K F T H σ ρ v x) (R : Rel K F T H σ ρ) (e : Ext σ ρ H σ ρ2 H) : VOk K F T H σ ρ2 v x := h.ext R e (fun _ z => z) fun _ z => .inl z
/-- new lists in arguments that are kept: they stay forbidden, so they may not be kept (a new list is kept by the rule of kept arguments alone) -/
def noFr : List Md → List Op → Bool
  | .kp :: ms, .fr _ :: xs => false
  | _ :: ms, _ :: xs => noFr ms xs
  | _, _ => true
theorem prep_ok : ∀ {md : List Md} {vs : List V} {xs : List Op} {ρ ρ2 : Ev} {ds : List D} {is : List Nat}, Rel K F T H σ ρ → VOks K F T H σ ρ vs xs → noFr md xs = true → prep md xs ρ = some (ds, is, ρ2) →
    Rel K F T H σ ρ2 ∧ Ext σ ρ H σ ρ2 H ∧ Sh ρ ρ2 ∧ PreA K F T H σ ρ2 md vs xs ds is
  | [], _, [], ρ, _, _, _, R, .nil, _, e => by
    cases e
    exact ⟨R, Ext.refl .., Sh.refl _, .nil⟩
  | [], _, _ :: _, _, _, _, _, _, _, _, e => by cases e
  | m :: _, _, [], _, _, _, _, _, _, _, e => by cases m <;> cases e
  | .pl :: ms, _, x :: xs, ρ, ρ2, ds, is, R, .cons (v := v) (vs := vs) h q, nf, e => by
    have e : (rd ρ x).bind (fun d => (prep ms xs ρ).bind fun r => some (d :: r.1, r.2.1, r.2.2)) = some (ds, is, ρ2) := e
    cases e1 : rd ρ x with
    | none => rw [e1] at e; cases e
    | some d =>
      rw [e1] at e
      have e : (prep ms xs ρ).bind (fun r => some (d :: r.1, r.2.1, r.2.2)) = some (ds, is, ρ2) := e
      cases e2 : prep ms xs ρ with
      | none => rw [e2] at e; cases e
      | some r =>
        obtain ⟨ds', is', ρ'⟩ := r
        rw [e2] at e; cases e
        obtain ⟨r1, r2, r3, r4⟩ := prep_ok R q (by cases x <;> exact nf) e2
        exact ⟨r1, r2, r3, .pl (h.sh R r2) (by rw [r3.rd]; exact e1) r4⟩
  | .kp :: ms, _, x :: xs, ρ, ρ2, ds, is, R, .cons (v := v) (vs := vs) h q, nf, e => by
    have e : (kp ρ x).bind (fun p => (prep ms xs p.2).bind fun r => some (p.1 :: r.1, r.2.1, r.2.2)) = some (ds, is, ρ2) := e
    cases e1 : kp ρ x with
    | none => rw [e1] at e; cases e
    | some p =>
      obtain ⟨d, ρ1⟩ := p
      rw [e1] at e
      have e : (prep ms xs ρ1).bind (fun r => some (d :: r.1, r.2.1, r.2.2)) = some (ds, is, ρ2) := e
      obtain ⟨k1, k2, k3, k4⟩ := kp_sh R h e1
      have nf2 : noFr ms xs = true ∧ ∀ d, x ≠ .fr d := by
        cases x with
        | fr d => cases nf
        | val d => exact ⟨nf, fun _ z => nomatch z⟩
        | sl i => exact ⟨nf, fun _ z => nomatch z⟩
      cases e2 : prep ms xs ρ1 with
      | none => rw [e2] at e; cases e
      | some r =>
        obtain ⟨ds', is', ρ'⟩ := r
        rw [e2] at e; cases e
        obtain ⟨r1, r2, r3, r4⟩ := prep_ok k1 (q.ext R k2 (fun _ z => z) fun _ z => .inl z) nf2.1 e2
        exact ⟨r1, k2.trans r2, k3.trans r3, .kp (RD.mono (r2.fb fun _ z => .inl z) _ _ (k4 (nf2.2 d))) r4⟩
  | .mu :: ms, _, .val _ :: _, _, _, _, _, _, _, _, e => by cases e
  | .mu :: ms, _, .fr _ :: _, _, _, _, _, _, _, _, e => by cases e
  | .mu :: ms, _, .sl i :: xs, ρ, ρ2, ds, is, R, .cons (v := v) (vs := vs) h q, nf, e => by
    have hv : σ[i]? = some (some v) := h
    have go : ∀ d, rdS ρ[i]? = some d → (prep ms xs ρ).bind (fun r => if i ∈ r.2.1 then none else some (d :: r.1, i :: r.2.1, r.2.2)) = some (ds, is, ρ2) → Rel K F T H σ ρ2 ∧ Ext σ ρ H σ ρ2 H ∧ Sh ρ ρ2 ∧ PreA K F T H σ ρ2 (.mu :: ms) (v :: vs) (.sl i :: xs) ds is := fun d hd e => by
      cases e2 : prep ms xs ρ with
      | none => rw [e2] at e; cases e
      | some r =>
        obtain ⟨ds', is', ρ'⟩ := r
        rw [e2] at e
        have e : (if i ∈ is' then none else some (d :: ds', i :: is', ρ')) = some (ds, is, ρ2) := e
        by_cases c : i ∈ is'
        · rw [if_pos c] at e; cases e
        · rw [if_neg c] at e; cases e
          obtain ⟨r1, r2, r3, r4⟩ := prep_ok R q nf e2
          exact ⟨r1, r2, r3, .mu hv (by rw [r3.rdS]; exact hd) c r4⟩
    have e : (match ρ[i]? with
      | some (.ow d) => (prep ms xs ρ).bind fun r => if i ∈ r.2.1 then none else some (d :: r.1, i :: r.2.1, r.2.2)
      | some (.le d) => (prep ms xs ρ).bind fun r => if i ∈ r.2.1 then none else some (d :: r.1, i :: r.2.1, r.2.2)
      | _ => none) = some (ds, is, ρ2) := e
    cases q2 : ρ[i]? with
    | none => rw [q2] at e; cases e
    | some s =>
      rw [q2] at e go
      cases s with
      | ow d => exact go d rfl e
      | le d => exact go d rfl e
      | _ => cases e
/-- the slots that get what was changed -/
theorem putA_get : ∀ {is : List Nat} {outs : List D} {ρ ρ3 : Ev}, is.Nodup → putA is outs ρ = some ρ3 → ρ3.length = ρ.length ∧ (∀ j : Nat, j ∉ is → ρ3[j]? = ρ[j]?) ∧ is.length = outs.length ∧
    ∀ (k i : Nat) d, is[k]? = some i → outs[k]? = some d → (∃ d0, ρ[i]? = some (.ow d0) ∧ ρ3[i]? = some (.ow d)) ∨ ∃ d0, ρ[i]? = some (.le d0) ∧ ρ3[i]? = some (.le d)
  | [], [], ρ, _, _, e => by cases e; exact ⟨rfl, fun _ _ => rfl, rfl, fun k i d h => by cases h⟩
  | [], _ :: _, _, _, _, e => by cases e
  | _ :: _, [], _, _, _, e => by cases e
  | i :: is, d :: outs, ρ, ρ3, nd, e => by
    obtain ⟨n1, n2⟩ := List.nodup_cons.mp nd
    have e : (putS d ρ[i]?).bind (fun s => putA is outs (ρ.set i s)) = some ρ3 := e
    cases q : putS d ρ[i]? with
    | none => rw [q] at e; cases e
    | some s =>
      rw [q] at e
      obtain ⟨h1, h2, h3, h4⟩ := putA_get n2 (show putA is outs (ρ.set i s) = some ρ3 from e)
      have hs : (∃ d0, ρ[i]? = some (.ow d0) ∧ s = .ow d) ∨ ∃ d0, ρ[i]? = some (.le d0) ∧ s = .le d := by
        cases q2 : ρ[i]? with
        | none => rw [q2] at q; cases q
        | some s0 =>
          rw [q2] at q
          cases s0 with
          | ow d0 => cases q; exact .inl ⟨d0, rfl, rfl⟩
          | le d0 => cases q; exact .inr ⟨d0, rfl, rfl⟩
          | _ => cases q
      have hi : i < ρ.length := by
        rcases hs with ⟨_, e, _⟩ | ⟨_, e, _⟩ <;> exact (List.getElem?_eq_some_iff.mp e).1
      refine ⟨by rw [h1, List.length_set], fun j hj => ?_, congrArg (· + 1) h3, fun k j d' hk hd => ?_⟩
      · have e1 : j ≠ i := fun z => hj (by rw [z]; exact List.mem_cons_self)
        rw [h2 j fun z => hj (List.mem_cons_of_mem _ z), List.getElem?_set_ne (Ne.symm e1)]
      · cases k with
        | zero =>
          cases hk; cases hd
          rw [h2 i n1, List.getElem?_set_self hi]
          rcases hs with ⟨d0, e1, e2⟩ | ⟨d0, e1, e2⟩
          · exact .inl ⟨d0, e1, by rw [e2]⟩
          · exact .inr ⟨d0, e1, by rw [e2]⟩
        | succ k =>
          have hk : is[k]? = some j := hk
          have hd : outs[k]? = some d' := hd
          have e1 : i ≠ j := fun z => n1 (by rw [z]; exact List.mem_of_getElem? hk)
          have := h4 k j d' hk hd
          rw [List.getElem?_set_ne e1] at this
          exact this
theorem Outs.get {A : Fo} : ∀ {ls : List Addr} {outs : List D} {k : Nat} {a : Addr} {d : D}, Outs K A H ls outs → ls[k]? = some a → outs[k]? = some d → OB K A H a d
  | _, _, k, _, _, .nil, h, _ => by cases h
  | _, _, 0, _, _, .cons q _, h1, h2 => by cases h1; cases h2; exact q
  | _, _, k + 1, _, _, .cons _ t, h1, h2 => Outs.get (k := k) t h1 h2
theorem Outs.len {A : Fo} : ∀ {ls : List Addr} {outs : List D}, Outs K A H ls outs → ls.length = outs.length
  | _, _, .nil => rfl
  | _, _, .cons _ t => congrArg (· + 1) (Outs.len t)
/-- the addresses of the lent slots -/
inductive Adr (σ : St) : List Nat → List Addr → Prop
  | nil : Adr σ [] []
  | cons {i : Nat} {a : Addr} {is : List Nat} {ls : List Addr} : σ[i]? = some (some (V.ref a)) → Adr σ is ls → Adr σ (i :: is) (a :: ls)
theorem Adr.mem {is : List Nat} {ls : List Addr} (h : Adr σ is ls) : (∀ a ∈ ls, ∃ i ∈ is, σ[i]? = some (some (V.ref a))) ∧ ∀ i ∈ is, ∃ (k : Nat) (a : Addr), is[k]? = some i ∧ ls[k]? = some a ∧ σ[i]? = some (some (V.ref a)) := by
  induction h with
  | nil => exact ⟨fun a h => (nomatch h), fun i h => (nomatch h)⟩
  | @cons i a is ls h t ih =>
    refine ⟨fun b hb => ?_, fun j hj => ?_⟩
    · rcases List.mem_cons.mp hb with z | z
      · subst z; exact ⟨i, List.mem_cons_self, h⟩
      · obtain ⟨j, q1, q2⟩ := ih.1 b z
        exact ⟨j, List.mem_cons_of_mem _ q1, q2⟩
    · rcases List.mem_cons.mp hj with z | z
      · subst z; exact ⟨0, a, rfl, rfl, h⟩
      · obtain ⟨k, b, q⟩ := ih.2 j z
        exact ⟨k + 1, b, q⟩
/-- the callee's arguments -/
theorem PreA.args {ρ : Ev} (R : Rel K F T H σ ρ) {L : List Addr} {I : List Nat} (hL : ∀ a ∈ L, ∃ i ∈ I, σ[i]? = some (some (V.ref a))) (hI : ∀ i ∈ I, OwnS ρ[i]? = true) : ∀ {md : List Md} {vs : List V} {xs : List Op} {ds : List D} {is : List Nat}, PreA K F T H σ ρ md vs xs ds is →
    apart md xs I = true → (∀ i ∈ is, i ∈ I) → ∃ ls, Adr σ is ls ∧ (ls.Nodup) ∧ ArgsR K (Fb F T σ ρ) (· ∈ L) H md vs ds ls
  | _, _, _, _, _, .nil, _, _ => ⟨[], .nil, List.nodup_nil, .nil⟩
  | _, _, _, _, _, .pl (ms := ms) (xs := xs) (x := x) (v := v) (d := d) h e t, ap, hi => by
    have ap' : apart ms xs I = true ∧ ∀ i, x = .sl i → i ∉ I := by
      cases x with
      | sl i =>
        have ap : (!decide (i ∈ I) && apart ms xs I) = true := ap
        simp only [Bool.and_eq_true, Bool.not_eq_true', decide_eq_false_iff_not] at ap
        exact ⟨ap.2, fun j z => by cases z; exact ap.1⟩
      | val _ => exact ⟨ap, fun j z => (nomatch z)⟩
      | fr _ => exact ⟨ap, fun j z => (nomatch z)⟩
    obtain ⟨ls, q1, q2, q3⟩ := PreA.args R hL hI t ap'.1 hi
    refine ⟨ls, q1, q2, .pl ?_ q3⟩
    have osL : ∀ a ∈ L, OS σ ρ a := fun a ha => by
      obtain ⟨i, h1, h2⟩ := hL a ha
      exact ⟨i, hI i h1, h2⟩
    have ofOB : ∀ {a}, OB K (Fb F T σ ρ) H a d → a ∉ L → v = .ref a → AR K (Fb F T σ ρ) (· ∈ L) H v d := fun {a} ob na ev => by
      cases d with
      | list es => obtain ⟨ys, p1, p2⟩ := ob; exact .inr ⟨a, ev, .inl ⟨es, ys, rfl, .inl ⟨.inl p1, na⟩, p2⟩⟩
      | dict ks => obtain ⟨ys, p1, p2⟩ := ob; exact .inr ⟨a, ev, .inr ⟨ks, ys, rfl, p1, na, p2⟩⟩
      | _ => exact ob.elim
    cases x with
    | val d' => cases e; exact .inl h
    | fr d' =>
      cases e
      obtain ⟨a, ev, ta, ob, _⟩ := h
      exact ofOB ob (fun z => (R.os (osL a z)).2.1 ta) ev
    | sl j =>
      have hv : σ[j]? = some (some v) := h
      have e : rdS ρ[j]? = some d := e
      have nj := ap'.2 j rfl
      have own : ∀ a, v = .ref a → OwnS ρ[j]? = true → a ∉ L := fun a ev o z => by
        obtain ⟨i, h1, h2⟩ := hL a z
        have : i = j := R.inj i j a (hI i h1) h2 o (by rw [hv, ev])
        exact nj (this ▸ h1)
      cases q : ρ[j]? with
      | none => rw [q] at e; cases e
      | some s =>
        rw [q] at e
        cases s with
        | un => cases e
        | cl d' =>
          cases e
          obtain ⟨u, p1, p2⟩ := R.cl j d q
          rw [hv] at p1; cases p1
          exact .inl p2
        | ow d' =>
          cases e
          obtain ⟨a, p1, p2, _⟩ := R.ow j d q
          rw [hv] at p1; cases p1
          exact ofOB p2 (own a rfl (by rw [q]; rfl)) rfl
        | le d' =>
          cases e
          obtain ⟨a, _, p1, p2, _⟩ := R.le j d q
          rw [hv] at p1; cases p1
          exact ofOB p2 (own a rfl (by rw [q]; rfl)) rfl
        | bo d' =>
          cases e
          obtain ⟨a, p1, p2⟩ := R.bo j d q
          rw [hv] at p1; cases p1
          have na : (∃ o, F.H0 a = some o) → ¬ F.L a → a ∉ L := fun ⟨o, ho⟩ nl z => by
            obtain ⟨i, h1, h2⟩ := hL a z
            obtain ⟨d2, e2 | e2⟩ := ownS_cases (hI i h1)
            · obtain ⟨b, r1, _, _, _, r5⟩ := R.ow i d2 e2
              rw [h2] at r1; cases r1
              rw [r5] at ho; cases ho
            · obtain ⟨b, r0, r1, _⟩ := R.le i d2 e2
              rw [h2] at r1; cases r1
              exact nl ⟨i, r0⟩
          cases d with
          | list es =>
            obtain ⟨ys, p3, p4⟩ := p2
            refine .inr ⟨a, rfl, .inl ⟨es, ys, rfl, ?_, p4⟩⟩
            rcases p3 with ⟨p3 | ⟨o, p3⟩, n⟩ | p3
            · exact .inl ⟨.inl (R.keep _ _ p3 rfl n), na ⟨_, p3⟩ n⟩
            · exact .inl ⟨.inr ⟨o, R.keep _ _ p3 rfl n⟩, na ⟨_, p3⟩ n⟩
            · exact .inr p3
          | dict ks =>
            obtain ⟨ys, p3, n, p4⟩ := p2
            exact .inr ⟨a, rfl, .inr ⟨ks, ys, rfl, R.keep _ _ p3 rfl n, na ⟨_, p3⟩ n, p4⟩⟩
          | _ => exact p2.elim
  | _, _, _, _, _, .kp (ms := ms) (xs := xs) (x := x) h t, ap, hi => by
    obtain ⟨ls, q1, q2, q3⟩ := PreA.args R hL hI t (by cases x <;> exact ap) hi
    exact ⟨ls, q1, q2, .kp h q3⟩
  | _, _, _, _, _, .mu (is := is) (i := i) (d := d) hv e ni t, ap, hi => by
    obtain ⟨ls, q1, q2, q3⟩ := PreA.args R hL hI t ap fun j hj => hi j (List.mem_cons_of_mem _ hj)
    have o := hI i (hi i List.mem_cons_self)
    have : ∃ a, σ[i]? = some (some (V.ref a)) ∧ OB K (Fb F T σ ρ) H a d := by
      obtain ⟨d2, e2 | e2⟩ := ownS_cases o
      · rw [e2] at e; cases e
        obtain ⟨a, p1, p2, _⟩ := R.ow i d e2
        exact ⟨a, p1, p2⟩
      · rw [e2] at e; cases e
        obtain ⟨a, _, p1, p2, _⟩ := R.le i d e2
        exact ⟨a, p1, p2⟩
    obtain ⟨a, p1, p2⟩ := this
    rw [hv] at p1; cases p1
    refine ⟨a :: ls, .cons hv q1, List.nodup_cons.mpr ⟨fun z => ?_, q2⟩, .mu p2 q3⟩
    obtain ⟨j, j1, j2⟩ := q1.mem.1 a z
    have : i = j := R.inj i j a o hv (hI j (hi j (List.mem_cons_of_mem _ j1))) j2
    exact ni (this ▸ j1)
theorem PreA.nodup {ρ : Ev} {md : List Md} {vs : List V} {xs : List Op} {ds : List D} {is : List Nat} (h : PreA K F T H σ ρ md vs xs ds is) : is.Nodup ∧ ∃ ls, (∀ i ∈ is, ∃ v, σ[i]? = some (some v)) ∧ (ls : List Nat) = is := by
  induction h with
  | nil => exact ⟨List.nodup_nil, [], fun i h => (nomatch h), rfl⟩
  | pl _ _ _ ih => exact ih
  | kp _ _ ih => exact ih
  | @mu ms vs xs ds is v i d hv _ ni _ ih =>
    obtain ⟨n, _, h, _⟩ := ih
    refine ⟨List.nodup_cons.mpr ⟨ni, n⟩, _, fun j hj => ?_, rfl⟩
    rcases List.mem_cons.mp hj with z | z
    · subst z; exact ⟨v, hv⟩
    · exact h j z
end
/-- the addresses there are -/
theorem adr_of {K : PySem.W.Frag} {F : Fc} {T : Fo} {H : Hp} {σ : St} {ρ : Ev} (R : Rel K F T H σ ρ) : ∀ (is : List Nat), (∀ i ∈ is, OwnS ρ[i]? = true) → ∃ ls, Adr σ is ls
  | [], _ => ⟨[], .nil⟩
  | i :: is, h => by
    obtain ⟨ls, q⟩ := adr_of R is fun j hj => h j (List.mem_cons_of_mem _ hj)
    obtain ⟨d2, e2 | e2⟩ := ownS_cases (h i List.mem_cons_self)
    · obtain ⟨a, p1, _⟩ := R.ow i d2 e2
      exact ⟨a :: ls, .cons p1 q⟩
    · obtain ⟨a, _, p1, _⟩ := R.le i d2 e2
      exact ⟨a :: ls, .cons p1 q⟩
theorem Adr.inj {σ : St} : ∀ {is : List Nat} {l1 l2 : List Addr}, Adr σ is l1 → Adr σ is l2 → l1 = l2
  | _, _, _, .nil, .nil => rfl
  | _, _, _, .cons h t, .cons h' t' => by
    rw [h] at h'; cases h'
    rw [Adr.inj t t']
theorem putA_own : ∀ {is : List Nat} {outs : List D} {ρ ρ3 : Ev}, putA is outs ρ = some ρ3 → is.Nodup → ∀ i ∈ is, OwnS ρ[i]? = true := fun {is outs ρ ρ3} e nd i hi => by
  obtain ⟨_, _, hl, h⟩ := putA_get nd e
  obtain ⟨k, hk, hk2⟩ := List.getElem_of_mem hi
  have h1 : is[k]? = some i := by rw [List.getElem?_eq_getElem hk, hk2]
  have h2 : ∃ d, outs[k]? = some d := ⟨outs[k]'(by rw [← hl]; exact hk), List.getElem?_eq_getElem _⟩
  obtain ⟨d, h2⟩ := h2
  rcases h k i d h1 h2 with ⟨_, e, _⟩ | ⟨_, e, _⟩ <;> (rw [e]; rfl)
section
variable {K : PySem.W.Frag} {F : Fc} {T : Fo} {H H' : Hp} {σ : St} {ρ ρ3 : Ev}
theorem Outs.less {A A' : Fo} (h : ∀ b, A' b → A b) : ∀ {ls : List Addr} {ds : List D}, Outs K A H ls ds → Outs K A' H ls ds
  | _, _, .nil => .nil
  | _, _, .cons o t => .cons (o.mono (Le.less h) fun _ z => z) (t.less h)
/-- behind a call: the lent slots hold what was made of them -/
theorem Rel.put (R : Rel K F T H σ ρ) {T' : Fo} (tn : ∀ b, T' b → T b ∨ (H b = none ∧ H' b ≠ none)) {is : List Nat} {ls : List Addr} {outs : List D} (nd : is.Nodup) (ad : Adr σ is ls) (lv : Leave F.tb ls H H') (ou : Outs K (Fb F T' σ ρ) H' ls outs) (e : putA is outs ρ = some ρ3) : Rel K F T' H' σ ρ3 ∧ Ext σ ρ H σ ρ3 H' ∧ ∀ b, OS σ ρ3 b → OS σ ρ b := by
  obtain ⟨g1, g2, g3, g4⟩ := putA_get nd e
  have own := putA_own e nd
  obtain ⟨ad1, ad2⟩ := ad.mem
  have lsO : ∀ a ∈ ls, OS σ ρ a := fun a ha => by
    obtain ⟨i, h1, h2⟩ := ad1 a ha
    exact ⟨i, own i h1, h2⟩
  -- a lent slot's place
  have pl : ∀ i ∈ is, ∃ k a d, is[k]? = some i ∧ σ[i]? = some (some (V.ref a)) ∧ outs[k]? = some d ∧ OB K (Fb F T' σ ρ) H' a d ∧ ((∃ d0, ρ[i]? = some (.ow d0) ∧ ρ3[i]? = some (.ow d)) ∨ ∃ d0, ρ[i]? = some (.le d0) ∧ ρ3[i]? = some (.le d)) := fun i hi => by
    obtain ⟨k, a, q1, q2, q3⟩ := ad2 i hi
    have hk : k < outs.length := by rw [← ou.len]; exact (List.getElem?_eq_some_iff.mp q2).1
    have q4 : outs[k]? = some outs[k] := List.getElem?_eq_getElem hk
    exact ⟨k, a, outs[k], q1, q3, q4, ou.get q2 q4, g4 k i _ q1 q4⟩
  have ownS : ∀ i, OwnS ρ3[i]? = OwnS ρ[i]? := fun i => by
    by_cases hi : i ∈ is
    · obtain ⟨_, _, _, _, _, _, _, q⟩ := pl i hi
      rcases q with ⟨_, e1, e2⟩ | ⟨_, e1, e2⟩ <;> (rw [e1, e2]; rfl)
    · rw [g2 i hi]
  have os : ∀ b, OS σ ρ3 b ↔ OS σ ρ b := fun b => ⟨fun ⟨i, h1, h2⟩ => ⟨i, by rw [← ownS]; exact h1, h2⟩, fun ⟨i, h1, h2⟩ => ⟨i, by rw [ownS]; exact h1, h2⟩⟩
  have fe : Fb F T' σ ρ3 = Fb F T' σ ρ := by
    funext b
    unfold Fb
    rw [propext (os b)]
  have l : Le (Fb F T σ ρ) H (Fb F T' σ ρ) H' := ⟨fun b o q t n => lv.kept b o q t fun z => n (.inr (.inr (lsO b z))), fun b z => by
    rcases z with z | z | z
    · exact .inl (.inl z)
    · exact (tn b z).imp (fun z => .inr (.inl z)) fun z => z.1
    · exact .inl (.inr (.inr z)), lv.dom⟩
  have nT : ∀ b, OS σ ρ b → ¬ T' b := fun b q z => by
    obtain ⟨_, q2, o, ho⟩ := R.os q
    rcases tn b z with z | z
    · exact q2 z
    · rw [ho] at z; cases z.1
  have out : ∀ (i : Nat) a, i ∉ is → OwnS ρ[i]? = true → σ[i]? = some (some (V.ref a)) → a ∉ ls := fun i a hi o hv z => by
    obtain ⟨j, h1, h2⟩ := ad1 a z
    have : i = j := R.inj i j a o hv (own j h1) h2
    exact hi (this ▸ h1)
  refine ⟨⟨by rw [g1]; exact R.len, fun i d q => ?_, fun i d q => ?_, fun i d q => ?_, fun i d q => ?_, fun i j b h1 h2 h3 h4 => R.inj i j b (by rw [← ownS]; exact h1) h2 (by rw [← ownS]; exact h3) h4, fun b o q t n => ?_, fun b h => lv.dom b (R.dom b h), fun b h => h.elim (fun z => lv.dom b (R.tdom b (.inl z))) fun z => (tn b z).elim (fun z => lv.dom b (R.tdom b (.inr z))) fun z => z.2, lv.tabs⟩, ⟨fun b o q t n => lv.kept b o q t fun z => n (lsO b z), fun b z => .inl ((os b).mp z), lv.dom⟩, fun b z => (os b).mp z⟩
  · rw [fe]
    have hi : i ∉ is := fun z => by
      have := ownS i
      rw [q, own i z] at this; cases this
    rw [g2 i hi] at q
    obtain ⟨v, p1, p2⟩ := R.cl i d q
    exact ⟨v, p1, RD.mono l _ _ p2⟩
  · rw [fe]
    have hi : i ∉ is := fun z => by
      have := ownS i
      rw [q, own i z] at this; cases this
    rw [g2 i hi] at q
    obtain ⟨v, p1, p2⟩ := R.bo i d q
    exact ⟨v, p1, p2.mono l⟩
  · rw [fe]
    by_cases hi : i ∈ is
    · obtain ⟨k, a, d', q1, q2, q3, q4, q5⟩ := pl i hi
      rcases q5 with ⟨d0, e1, e2⟩ | ⟨d0, e1, e2⟩
      · rw [q] at e2; cases e2
        obtain ⟨b, p1, p2, p3, p4, p5⟩ := R.ow i d0 e1
        rw [q2] at p1; cases p1
        exact ⟨a, q2, q4, p3, nT a ⟨i, own i hi, q2⟩, p5⟩
      · rw [q] at e2; cases e2
    · rw [g2 i hi] at q
      obtain ⟨a, p1, p2, p3⟩ := R.ow i d q
      exact ⟨a, p1, p2.mono' l fun o ho t => lv.kept a o ho t (out i a hi (by rw [q]; rfl) p1), p3.1, nT a ⟨i, by rw [q]; rfl, p1⟩, p3.2.2⟩
  · rw [fe]
    by_cases hi : i ∈ is
    · obtain ⟨k, a, d', q1, q2, q3, q4, q5⟩ := pl i hi
      rcases q5 with ⟨d0, e1, e2⟩ | ⟨d0, e1, e2⟩
      · rw [q] at e2; cases e2
      · rw [q] at e2; cases e2
        obtain ⟨b, p0, p1, p2, p3, p4⟩ := R.le i d0 e1
        rw [q2] at p1; cases p1
        exact ⟨a, p0, q2, q4, p3, nT a ⟨i, own i hi, q2⟩⟩
    · rw [g2 i hi] at q
      obtain ⟨a, p0, p1, p2, p3⟩ := R.le i d q
      exact ⟨a, p0, p1, p2.mono' l fun o ho t => lv.kept a o ho t (out i a hi (by rw [q]; rfl) p1), p3.1, nT a ⟨i, by rw [q]; rfl, p1⟩⟩
  · refine lv.kept b o (R.keep b o q t n) t fun z => ?_
    obtain ⟨i, h1, h2⟩ := ad1 b z
    obtain ⟨d, e | e⟩ := ownS_cases (own i h1)
    · obtain ⟨a, p1, _, _, _, p5⟩ := R.ow i d e
      rw [h2] at p1; cases p1
      rw [p5] at q; cases q
    · obtain ⟨a, p0, p1, _⟩ := R.le i d e
      rw [h2] at p1; cases p1
      exact n ⟨i, p0⟩
end
/-- a call of a def that goes as g -/
def mCall (g : List D → FR) (md : List Md) (as : M (List Op)) : M Op := fun ρ => (as ρ).bind fun xs ρ1 => if noFr md xs = true then (match prep md xs ρ1 with
  | none => .no
  | some (ds, is, ρ2) => if apart md xs is = true then (match g ds with
    | .ok b d outs => (match putA is outs ρ2 with
      | some ρ3 => .ok (if b = true then .fr d else .val d) ρ3
      | none => .no)
    | .er x outs => (match putA is outs ρ2 with
      | some ρ3 => .er x ρ3
      | none => .no)
    | .no => .no) else .no) else .no
theorem liftCall {K : PySem.W.Frag} {F : Fc} {g : List D → FR} {md : List Md} {mas : M (List Op)} {σ : St} {H : Hp} {Q : VK} (h : liftE K F (mCall g md mas) σ H Q) : tCallS (spV K F.cn F.tb md g) (WE F.W) (liftA K F mas) σ H Q := by
  obtain ⟨T, ρ, R, h⟩ := h
  refine ⟨T, ρ, R, ?_⟩
  unfold mCall at h
  cases e1 : mas ρ with
  | no => rw [e1] at h; exact h.elim
  | er x ρ' => rw [e1] at h; exact h
  | ok xs ρ1 =>
    rw [e1] at h
    rw [Rs.bind_ok] at h
    intro T1 vs H1 t n R1 x1 q1
    by_cases nf : noFr md xs = true
    · rw [if_pos nf] at h
      cases e2 : prep md xs ρ1 with
      | none => rw [e2] at h; exact h.elim
      | some r =>
        obtain ⟨ds, is, ρ2⟩ := r
        rw [e2] at h
        dsimp only at h
        by_cases ap : apart md xs is = true
        · rw [if_pos ap] at h
          obtain ⟨R2, x2, sh, pre⟩ := prep_ok R1 q1 nf e2
          have nd := pre.nodup.1
          have main : ∀ outs ρ3, putA is outs ρ2 = some ρ3 → ∃ ls, Adr σ is ls ∧ ls.Nodup ∧ ArgsR K (Fb F T1 σ ρ2) (· ∈ ls) H1 md vs ds ls := fun outs ρ3 e => by
            have own := putA_own e nd
            obtain ⟨ls, ad⟩ := adr_of R2 is own
            obtain ⟨l2, q2, q3, q4⟩ := pre.args R2 ad.mem.1 own ap fun i h => h
            have : l2 = ls := Adr.inj q2 ad
            subst this
            exact ⟨_, ad, q3, q4⟩
          have lsA : ∀ outs ρ3, putA is outs ρ2 = some ρ3 → ∀ ls, Adr σ is ls → ∀ a ∈ ls, Fb F T1 σ ρ2 a := fun outs ρ3 e ls ad a ha => by
            obtain ⟨i, h1, h2⟩ := ad.mem.1 a ha
            exact .inr (.inr ⟨i, putA_own e nd i h1, h2⟩)
          cases eg : g ds with
          | no => rw [eg] at h; exact h.elim
          | ok b d outs =>
            rw [eg] at h
            dsimp only at h
            cases e3 : putA is outs ρ2 with
            | none => rw [e3] at h; exact h.elim
            | some ρ3 =>
              rw [e3] at h
              dsimp only at h
              obtain ⟨ls, ad, nl, ar⟩ := main outs ρ3 e3
              refine ⟨R2.tabs, Fb F T1 σ ρ2, ds, ls, fun b z => R2.fbd z, lsA outs ρ3 e3 ls ad, nl, ar, ?_⟩
              rw [eg]
              intro v H2 lv ou rr
              cases b with
              | false =>
                obtain ⟨R3, x3, o3⟩ := R2.put (T' := T1) (fun _ z => .inl z) nd ad lv (ou.less fun b z => .inl z) e3
                have x : Ext σ ρ H σ ρ3 H2 := (x1.trans x2).trans x3
                refine h v H2 ?_
                rw [if_neg Bool.false_ne_true]
                have tt : ∀ b, TTf T v (.val d) b → T1 b := fun b z => z.elim (t b) fun ⟨_, e, _⟩ => (nomatch e)
                refine ⟨R3.less tt, x, ?_, fun _ _ e => (nomatch e)⟩
                exact RD.mono (Le.less fun b z => z.elim .inl fun z => z.elim (fun z => .inr (.inl (tt b z))) fun z => .inr (.inr (o3 b z))) _ _ rr
              | true =>
                obtain ⟨a, ev, hn, ob⟩ := rr
                subst ev
                obtain ⟨o, ho⟩ := ob.at
                obtain ⟨Rg, x3, o3⟩ := R2.put (T' := fun b => T1 b ∨ b = a) (fun b z => z.imp id fun z => by subst z; exact ⟨hn, by rw [ho]; exact fun z => nomatch z⟩) nd ad lv (ou.less fun b z => by
                  rcases z with z | (z | z) | z
                  · exact .inl (.inl z)
                  · exact .inl (.inr (.inl z))
                  · subst z; exact .inr ⟨rfl, rfl⟩
                  · exact .inl (.inr (.inr z))) e3
                have x : Ext σ ρ H σ ρ3 H2 := (x1.trans x2).trans x3
                refine h (.ref a) H2 ?_
                rw [if_pos rfl]
                have tt : ∀ b, TTf T (.ref a) (.fr d) b → T1 b ∨ b = a := fun b z => z.imp (t b) fun ⟨_, _, e⟩ => by cases e; rfl
                have fl : ∀ b, Fb F (TTf T (.ref a) (.fr d)) σ ρ3 b → Fb F T1 σ ρ2 b ∨ b = a := fun b z => by
                  rcases z with z | z | z
                  · exact .inl (.inl z)
                  · exact (tt b z).imp (fun z => .inr (.inl z)) id
                  · exact .inl (.inr (.inr (o3 b z)))
                have H1none : ∀ b, H b ≠ none → H1 b ≠ none := fun b z => (x1.trans x2).dom b z
                have hnH : H a = none := by
                  cases q : H a with
                  | none => rfl
                  | some o => exact absurd hn (H1none a (by rw [q]; exact fun z => nomatch z))
                exact ⟨Rg.less tt, x, ⟨a, rfl, .inr ⟨d, rfl, rfl⟩, ob.mono (Le.less fl) (fun _ h => h), fun z => R2.tdom a (.inl z) hn, R2.h0none hn⟩, fun _ b _ e => by cases e; exact hnH⟩
          | er z outs =>
            rw [eg] at h
            dsimp only at h
            cases e3 : putA is outs ρ2 with
            | none => rw [e3] at h; exact h.elim
            | some ρ3 =>
              rw [e3] at h
              obtain ⟨ls, ad, nl, ar⟩ := main outs ρ3 e3
              refine ⟨R2.tabs, Fb F T1 σ ρ2, ds, ls, fun b z => R2.fbd z, lsA outs ρ3 e3 ls ad, nl, ar, ?_⟩
              rw [eg]
              intro c dd H2 lv ou ek
              obtain ⟨R3, x3, o3⟩ := R2.put (T' := T1) (fun _ z => .inl z) nd ad lv ou e3
              exact h c dd H2 (R3.less t) ((x1.trans x2).trans x3) ek
        · rw [if_neg ap] at h; exact h.elim
    · rw [if_neg nf] at h; exact h.elim
end Vx
set_option maxHeartbeats 2000000
namespace Vx
open PySem PySem.Spec L2
section
variable {X : Cx} {F : Fc} {mas : M (List Op)} {e : Expr} {es : List Expr} {x : Str} {p pos : Pos} {k : Nat} {f : Addr} {fd : FuncData} {ps : List Str} {md : List Md} {g : List D → FR}
theorem qe_call (FN : FnOk X.prog X.w X.K X.mg X.base (L2.CX X.prog X.w) k f fd ps (spV X.K F.cn F.tb md g)) (hr : Room k X.A) (hg : Gl X x) (hm : X.mg x = some (.ref f)) (hk : PySem.W.keepIn X.K (.ref f) = true) (hb : Binds X.K fd ps []) (tk : Takes X F.W)
    (ha : QA X F (e :: es) mas) (hdb : (x == ("__debug__" : Str)) = false := by decide) (he : starEach (e :: es) X.env = (false, eval e X.env) :: starEach es X.env := by rfl) (hpl : (backTo pos (starEach es X.env)).any (·.1) = false := by rfl) : QE X F (.Call (.Name x p) (e :: es) [] pos) (mCall g md mas) :=
  (pe_callS FN hr hg hm hk hb (fun σ => passAt tk σ) ha hdb he hpl).imp fun _ _ _ h => liftCall h
end
section
variable {K : PySem.W.Frag} {A : Fo} {H : Hp}
theorem RB.tupR {v : V} {ds : List D} (h : RB K A H v (.tuple ds)) : RD K A H v (.tuple ds) := by
  cases h with
  | rd h => exact h
  | ob e h => exact h.elim
  | ls e e2 => cases e2
theorem RB.isNon {v : V} {d : D} (h : RB K A H v d) : (v = .non ↔ d = .none) := by
  cases h with
  | rd h => cases h <;> (constructor <;> intro z <;> first | rfl | cases z)
  | ob e h =>
    subst e
    refine Iff.intro (fun z => nomatch z) fun z => ?_
    subst z; exact h.elim
  | ls e e2 => subst e e2; exact ⟨fun z => (nomatch z), fun z => (nomatch z)⟩
/-- list + list, of any kind -/
def rCatL (K : PySem.W.Frag) : R2 := fun x y H Q => ∃ l b xs zs, x = .ref l ∧ y = .ref b ∧ SqL K H l xs ∧ SqL K H b zs ∧ xs.length + zs.length ≤ sizeLine ∧ ∀ p, H p = none → Q (.ref p) (upd H p (.lst (xs ++ zs)))
theorem op_catL {X : Cx} : OpR X (binaryOp .Add) (rCatL X.K) := by
  intro pins s σ H x y v u Q I rx ry h
  obtain ⟨l, b, xs, zs, rfl, rfl, hH, hB, hz, q⟩ := h
  cases rx
  cases ry
  obtain ⟨its, r, pl, z⟩ := I.list hH
  obtain ⟨its2, r2, pl2, z2⟩ := I.list hB
  have hl := r.length
  have hl2 := r2.length
  obtain ⟨⟨cls, dd, data, sl⟩, ho, hc, n, hd⟩ := pl.isList
  obtain ⟨⟨cls2, dd2, data2, sl2⟩, ho2, hc2, n2, hd2⟩ := pl2.isList
  simp only at hc hd hc2 hd2
  subst hc hd hc2 hd2
  have ea : its.toArray ++ its2.toArray = (its ++ its2).toArray := by simp
  refine PySem.concat_meets ⟨_, ho, rfl⟩ ⟨_, ho2, rfl⟩ PySem.noFill_list_add PySem.seq_list_add PySem.F.slot_list_add PySem.F.entry_list_add (PySem.F.args_list_add_2 _ _) (PyProof.Rows.list_addW l b its.toArray its2.toArray n n2 dd dd2 sl sl2 (by rw [List.size_toArray, List.size_toArray]; omega)) ⟨ho, ho2, ?_⟩
  rw [ea]
  exact ⟨.ref _, _, I.lnew (t' := s.toks) (r.append r2) (by rw [List.length_append]; omega), rfl, q _ I.fresh⟩
/-- a list times an int -/
def rRepL (K : PySem.W.Frag) : R2 := fun x y H Q => ∃ l k xs, x = .ref l ∧ y = .int k ∧ SqL K H l xs ∧ -(2 ^ 63) ≤ k ∧ k < 2 ^ 63 ∧ xs.length * k.toNat ≤ sizeLine ∧ ∀ p, H p = none → Q (.ref p) (upd H p (.lst (List.replicate k.toNat xs).flatten))
theorem RDs.app {a b : List V} {ds es : List D} (h : RDs K A H a ds) (q : RDs K A H b es) : RDs K A H (a ++ b) (ds ++ es) := by
  induction ds generalizing a with
  | nil => cases h; exact q
  | cons d ds ih =>
    cases h with
    | cons r t => exact .cons r (ih t)
end
section
variable {X : Cx}
def f2I (g : Int → Int → Option D) : D → D → Option Op
  | .int i, .int j => (g i j).map .val
  | _, _ => none
@[simp] theorem f2I_int (g : Int → Int → Option D) (i j : Int) : f2I g (.int i) (.int j) = (g i j).map .val := rfl
def rdV : D → Option V
  | .int i => some (.int i)
  | .bool b => some (.bl b)
  | .str z => some (.str z)
  | .none => some .non
  | _ => none
theorem rdV_rd {K : PySem.W.Frag} {A : Fo} {H : Hp} {d : D} {v : V} (h : rdV d = some v) : RD K A H v d := by
  cases d <;> cases h <;> first | exact .int _ | exact .bl _ | exact .str _ | exact .non
theorem p2_rI {K : PySem.W.Frag} {C : Int → Int → Prop} {g : Int → Int → V} {G : Int → Int → Option D} (h : ∀ i j d, G i j = some d → C i j ∧ rdV d = some (g i j)) : P2 K (rI C g) (f2I G) := by
  intro A H x y a b op Q hA ha hb e q
  cases a <;> try cases e
  cases b <;> try cases e
  rename_i i j
  have e : (G i j).map Op.val = some op := e
  cases eg : G i j with
  | none => rw [eg] at e; cases e
  | some d =>
    rw [eg] at e; cases e
    obtain ⟨c, r⟩ := h i j d eg
    exact ⟨i, j, ha.int, hb.int, c, q _ _ (pr_val (rdV_rd r))⟩
theorem p2_rI0 {K : PySem.W.Frag} {g : Int → Int → V} {G : Int → Int → Option D} (h : ∀ i j d, G i j = some d → rdV d = some (g i j)) : P2 K (rI0 g) (f2I G) := by
  intro A H x y a b op Q hA ha hb e q
  cases a <;> try cases e
  cases b <;> try cases e
  rename_i i j
  have e : (G i j).map Op.val = some op := e
  cases eg : G i j with
  | none => rw [eg] at e; cases e
  | some d =>
    rw [eg] at e; cases e
    exact ⟨i, j, ha.int, hb.int, q _ _ (pr_val (rdV_rd (h i j d eg)))⟩
def fSub := f2I fun i j => some (.int (i - j))
theorem p_sub : P2 X.K (rI0 fun i j => .int (i - j)) fSub := p2_rI0 fun i j d e => by cases e; rfl
def fLt := f2I fun i j => some (.bool (decide (i < j)))
def fLe := f2I fun i j => some (.bool (decide (i ≤ j)))
def fGt := f2I fun i j => some (.bool (decide (j < i)))
def fGe := f2I fun i j => some (.bool (decide (j ≤ i)))
theorem p_lt : P2 X.K (rI0 fun i j => .bl (decide (i < j))) fLt := p2_rI0 fun i j d e => by cases e; rfl
theorem p_le : P2 X.K (rI0 fun i j => .bl (decide (i ≤ j))) fLe := p2_rI0 fun i j d e => by cases e; rfl
theorem p_gt : P2 X.K (rI0 fun i j => .bl (decide (j < i))) fGt := p2_rI0 fun i j d e => by cases e; rfl
theorem p_ge : P2 X.K (rI0 fun i j => .bl (decide (j ≤ i))) fGe := p2_rI0 fun i j d e => by cases e; rfl
def okDiv (j : Int) : Bool := decide (0 < j) && decide (j < 1073741824)
def okDivW (j : Int) : Bool := decide (0 < j) && decide (j.natAbs.log2 < 9000)
def fDiv := f2I fun i j => if okDivW j = true then some (.int (i / j)) else none
def fMod := f2I fun i j => if decide (0 < j) = true then some (.int (i % j)) else none
def okPow (i j : Int) : Bool := decide (0 ≤ j) && decide (j ≤ 1000000) && decide (i.natAbs < 2 ^ 64)
def fPow := f2I fun i j => if okPow i j = true then some (.int (i ^ j.toNat)) else none
def fShl := f2I fun i j => if okPow i j = true then some (.int (i * 2 ^ j.toNat)) else none
theorem p_div : P2 X.K (rI CDivW fun i j => .int (i / j)) fDiv := p2_rI fun i j d e => by
  by_cases c : okDivW j = true
  · rw [if_pos c] at e; cases e
    simp only [okDivW, Bool.and_eq_true, decide_eq_true_eq] at c
    exact ⟨show CDivW i j from And.intro c.1 c.2, rfl⟩
  · rw [if_neg c] at e; cases e
theorem p_mod : P2 X.K (rI (fun _ j => 0 < j) fun i j => .int (i % j)) fMod := p2_rI fun i j d e => by
  by_cases c : decide (0 < j) = true
  · rw [if_pos c] at e; cases e
    exact ⟨of_decide_eq_true c, rfl⟩
  · rw [if_neg c] at e; cases e
theorem okPow_c {i j : Int} (c : okPow i j = true) : CPow i j := by
  simp only [okPow, Bool.and_eq_true, decide_eq_true_eq] at c
  exact ⟨c.1.1, c.1.2, c.2⟩
theorem p_pow : P2 X.K (rI CPow fun i j => .int (i ^ j.toNat)) fPow := p2_rI fun i j d e => by
  by_cases c : okPow i j = true
  · rw [if_pos c] at e; cases e
    exact ⟨okPow_c c, rfl⟩
  · rw [if_neg c] at e; cases e
theorem p_shl : P2 X.K (rI CPow fun i j => .int (i * 2 ^ j.toNat)) fShl := p2_rI fun i j d e => by
  by_cases c : okPow i j = true
  · rw [if_pos c] at e; cases e
    exact ⟨okPow_c c, rfl⟩
  · rw [if_neg c] at e; cases e
def fAdd : D → D → Option Op
  | .int i, .int j => some (.val (.int (i + j)))
  | .str i, .str j => if i.length + j.length ≤ sizeLine then some (.val (.str (i ++ j))) else none
  | .list xs, .list ys => if xs.length + ys.length ≤ sizeLine then some (.fr (.list (xs ++ ys))) else none
  | .tuple xs, .tuple ys => if xs.length + ys.length ≤ sizeLine then some (.val (.tuple (xs ++ ys))) else none
  | _, _ => none
@[simp] theorem fAdd_int (i j : Int) : fAdd (.int i) (.int j) = some (.val (.int (i + j))) := rfl
@[simp] theorem fAdd_list (i j : List D) : fAdd (.list i) (.list j) = if i.length + j.length ≤ sizeLine then some (.fr (.list (i ++ j))) else none := rfl
@[simp] theorem fAdd_tup (i j : List D) : fAdd (.tuple i) (.tuple j) = if i.length + j.length ≤ sizeLine then some (.val (.tuple (i ++ j))) else none := rfl
@[simp] theorem fAdd_str (i j : Str) : fAdd (.str i) (.str j) = if i.length + j.length ≤ sizeLine then some (.val (.str (i ++ j))) else none := rfl
def rAddI : R2 := rI0 fun i j => .int (i + j)
def rAddS : R2 := fun x y H Q => ∃ i j, x = .str i ∧ y = .str j ∧ i.length + j.length ≤ sizeLine ∧ Q (.str (i ++ j)) H
def rAdd (K : PySem.W.Frag) : R2 := fun x y H Q => (rAddI x y H Q ∨ rAddS x y H Q) ∨ (rCatL K x y H Q ∨ rCatA K x y H Q)
theorem o_add : OpR X (binaryOp .Add) (rAdd X.K) := OpR.or (OpR.or op_add op_add_str) (OpR.or op_catL op_catA)
theorem p_add : P2 X.K (rAdd X.K) fAdd := by
  intro A H x y a b op Q hA ha hb e q
  cases a with
  | int i =>
    cases b <;> try cases e
    exact .inl (.inl ⟨i, _, ha.int, hb.int, q _ _ (pr_val (.int _))⟩)
  | str i =>
    cases b <;> try cases e
    rename_i j
    have e : (if i.length + j.length ≤ sizeLine then some (Op.val (.str (i ++ j))) else none) = some op := e
    by_cases c : i.length + j.length ≤ sizeLine
    · rw [if_pos c] at e; cases e
      exact .inl (.inr ⟨i, j, ha.str, hb.str, c, q _ _ (pr_val (.str _))⟩)
    · rw [if_neg c] at e; cases e
  | list xs =>
    cases b <;> try cases e
    rename_i ys
    have e : (if xs.length + ys.length ≤ sizeLine then some (Op.fr (.list (xs ++ ys))) else none) = some op := e
    by_cases c : xs.length + ys.length ≤ sizeLine
    · rw [if_pos c] at e; cases e
      obtain ⟨l, us, e1, s1, r1⟩ := ha.lst
      obtain ⟨l2, us2, e2, s2, r2⟩ := hb.lst
      exact .inr (.inl ⟨l, l2, us, us2, e1, e2, s1, s2, by rw [r1.length, r2.length]; exact c, fun p hp => q _ _ (pr_lst hp (r1.app r2))⟩)
    · rw [if_neg c] at e; cases e
  | tuple xs =>
    cases b <;> try cases e
    rename_i ys
    have e : (if xs.length + ys.length ≤ sizeLine then some (Op.val (.tuple (xs ++ ys))) else none) = some op := e
    by_cases c : xs.length + ys.length ≤ sizeLine
    · rw [if_pos c] at e; cases e
      obtain ⟨l, us, e1, s1, r1⟩ := ha.tup
      obtain ⟨l2, us2, e2, s2, r2⟩ := hb.tup
      refine .inr (.inr ⟨l, l2, us, us2, e1, e2, s1, s2, by rw [r1.length, r2.length]; exact c, fun z => ?_, fun _ z => ?_, fun _ _ p hp => q _ _ (pr_tup hp hA (r1.app r2))⟩)
      · subst z; cases r1
        exact q _ _ (pr_val (by rw [← e2]; exact hb.tupR))
      · subst z; cases r2
        rw [List.append_nil] at q
        exact q _ _ (pr_val (by rw [← e1]; exact ha.tupR))
    · rw [if_neg c] at e; cases e
  | _ => cases e
end
end Vx
set_option maxHeartbeats 2000000
namespace Vx
open PySem PySem.Spec L2
section
variable {X : Cx} {K : PySem.W.Frag}
def okMul (i j : Int) : Bool := decide ((Builtin.Int.intBits i : Int) + (Builtin.Int.intBits j : Int) ≤ 134217728)
def fMul := f2I fun i j => if okMul i j = true then some (.int (i * j)) else none
theorem p_mul : P2 K (rI CMulX fun i j => .int (i * j)) fMul := p2_rI fun i j d e => by
  by_cases c : okMul i j = true
  · rw [if_pos c] at e; cases e
    exact ⟨show (Builtin.Int.intBits i : Int) + (Builtin.Int.intBits j : Int) ≤ 134217728 from of_decide_eq_true c, rfl⟩
  · rw [if_neg c] at e; cases e
/-- small enough -/
theorem okMul_of {i j : Int} {a b : Nat} (ha : i.natAbs < 2 ^ a) (hb : j.natAbs < 2 ^ b) (h : a + b ≤ 134217728) : okMul i j = true := decide_eq_true (show (Builtin.Int.intBits i : Int) + (Builtin.Int.intBits j : Int) ≤ 134217728 from mulx_ok ha hb h)
def fNeg : D → Option Op
  | .int i => some (.val (.int (-i)))
  | _ => none
@[simp] theorem fNeg_int (i : Int) : fNeg (.int i) = some (.val (.int (-i))) := rfl
theorem p_neg : P1 K (rU fun i => .int (-i)) fNeg := by
  intro A H x a op Q hA ha e q
  cases a <;> try cases e
  exact ⟨_, ha.int, q _ _ (pr_val (.int _))⟩
def okS (a : D) : Bool := SeqAt.shaped a
def fEq (a b : D) : Option Op := if (okS a && okS b) = true then some (.val (.bool (PyData.eqv a b))) else none
def fNe (a b : D) : Option Op := if (okS a && okS b) = true then some (.val (.bool (!PyData.eqv a b))) else none
theorem p_eq : P2 K (rEqD K) fEq := by
  intro A H x y a b op Q hA ha hb e q
  have e : (if (okS a && okS b) = true then some (Op.val (.bool (PyData.eqv a b))) else none) = some op := e
  by_cases c : (okS a && okS b) = true
  · rw [if_pos c] at e; cases e
    obtain ⟨c1, c2⟩ := Bool.and_eq_true_iff.mp c
    exact ⟨a, b, ha.dp (noDict_shaped c1), hb.dp (noDict_shaped c2), c1, c2, q _ _ (pr_val (.bl _))⟩
  · rw [if_neg c] at e; cases e
theorem p_ne : P2 K (rNeD K) fNe := by
  intro A H x y a b op Q hA ha hb e q
  have e : (if (okS a && okS b) = true then some (Op.val (.bool (!PyData.eqv a b))) else none) = some op := e
  by_cases c : (okS a && okS b) = true
  · rw [if_pos c] at e; cases e
    obtain ⟨c1, c2⟩ := Bool.and_eq_true_iff.mp c
    exact ⟨a, b, ha.dp (noDict_shaped c1), hb.dp (noDict_shaped c2), c1, c2, q _ _ (pr_val (.bl _))⟩
  · rw [if_neg c] at e; cases e
def rdVs : List D → Option (List V)
  | [] => some []
  | d :: ds => (rdV d).bind fun v => (rdVs ds).bind fun vs => some (v :: vs)
theorem RD.rdV_eq {A : Fo} {H : Hp} {d : D} {v u : V} (h : RD K A H v d) (e : rdV d = some u) : v = u := by
  cases d <;> try cases e
  all_goals (cases h; rfl)
theorem RB.rdV_eq {A : Fo} {H : Hp} {d : D} {v u : V} (h : RB K A H v d) (e : rdV d = some u) : v = u := by
  cases d <;> try cases e
  · exact h.non
  · exact h.bl
  · exact h.int
  · exact h.str
theorem rdV_flat {d : D} {u : V} (e : rdV d = some u) : flatV u = true := by
  cases d <;> cases e <;> rfl
theorem RDs.rdVs_eq {A : Fo} {H : Hp} : ∀ {ds : List D} {vs us : List V}, RDs K A H vs ds → rdVs ds = some us → vs = us ∧ us.all flatV = true
  | [], _, _, .nil, e => by cases e; exact ⟨rfl, rfl⟩
  | d :: ds, _, us, .cons h t, e => by
    have e : (rdV d).bind (fun v => (rdVs ds).bind fun vs => some (v :: vs)) = some us := e
    cases e1 : rdV d with
    | none => rw [e1] at e; cases e
    | some u =>
      rw [e1] at e
      have e : (rdVs ds).bind (fun vs => some (u :: vs)) = some us := e
      cases e2 : rdVs ds with
      | none => rw [e2] at e; cases e
      | some us' =>
        rw [e2] at e; cases e
        obtain ⟨q1, q2⟩ := RDs.rdVs_eq t e2
        exact ⟨by rw [h.rdV_eq e1, q1], by rw [List.all_cons, rdV_flat e1, q2]; rfl⟩
def inF (a : D) (ds : List D) : Option Bool := (rdV a).bind fun u => (rdVs ds).bind fun us => some (inV u us)
def inDp (a : D) (ds : List D) : Option Bool := if (okS a && okS (.list ds)) = true then some (ds.any fun z => PyData.eqv z a) else none
def inO : Option Bool → Option Bool → Option Bool
  | some b, _ => some b
  | none, o => o
def inB (a : D) : D → Option Bool
  | .tuple ds => inF a ds
  | .list ds => inO (inF a ds) (inDp a ds)
  | _ => none
def fIn (a b : D) : Option Op := (inB a b).map fun k => .val (.bool k)
def fNotIn (a b : D) : Option Op := (inB a b).map fun k => .val (.bool (!k))
def rInA (K : PySem.W.Frag) (neg : Bool) : R2 := fun x y H Q => rIn K neg x y H Q ∨ (if neg = true then rNotInD K x y H Q else rInD K x y H Q)
theorem o_in (hu : X.A.units + 65 < cLine) : OpR X (compareOp .In) (rInA X.K false) := OpR.or op_in_seq (op_inD hu)
theorem o_notIn (hu : X.A.units + 65 < cLine) : OpR X (compareOp .NotIn) (rInA X.K true) := OpR.or op_notIn_seq (op_notInD hu)
theorem in_core {A : Fo} {H : Hp} {x y : V} {a b : D} {k neg : Bool} {Q : VK} (ha : RB K A H x a) (hb : RB K A H y b) (e : inB a b = some k) (q : Q (.bl (if neg then !k else k)) H) : rInA K neg x y H Q := by
  have fl : ∀ (ds : List D) p vs, y = .ref p → (SqL K H p vs ∨ SqT K H p vs) → RDs K A H vs ds → inF a ds = some k → rInA K neg x y H Q := fun ds p vs ey sq r e => by
    unfold inF at e
    cases e1 : rdV a with
    | none => rw [e1] at e; cases e
    | some u =>
      rw [e1] at e
      have e : (rdVs ds).bind (fun us => some (inV u us)) = some k := e
      cases e2 : rdVs ds with
      | none => rw [e2] at e; cases e
      | some us =>
        rw [e2] at e; cases e
        obtain ⟨q1, q2⟩ := r.rdVs_eq e2
        have q3 := ha.rdV_eq e1
        subst q1 q3
        exact .inl ⟨p, vs, ey, sq, rdV_flat e1, q2, q⟩
  cases b with
  | tuple ds =>
    obtain ⟨p, vs, ey, s, r⟩ := hb.tup
    exact fl ds p vs ey (.inr s) r e
  | list ds =>
    obtain ⟨p, vs, ey, s, r⟩ := hb.lst
    have e : inO (inF a ds) (inDp a ds) = some k := e
    cases e1 : inF a ds with
    | some k' => rw [e1] at e; cases e; exact fl ds p vs ey (.inl s) r e1
    | none =>
      rw [e1] at e
      have e : (if (okS a && okS (.list ds)) = true then some (ds.any fun z => PyData.eqv z a) else none) = some k := e
      by_cases c : (okS a && okS (.list ds)) = true
      · rw [if_pos c] at e; cases e
        obtain ⟨c1, c2⟩ := Bool.and_eq_true_iff.mp c
        refine .inr ?_
        cases neg with
        | true => rw [if_pos rfl]; exact ⟨a, ds, ha.dp (noDict_shaped c1), hb.dp (noDict_shaped c2), c1, c2, q⟩
        | false => rw [if_neg Bool.false_ne_true]; exact ⟨a, ds, ha.dp (noDict_shaped c1), hb.dp (noDict_shaped c2), c1, c2, q⟩
      · rw [if_neg c] at e; cases e
  | _ => cases e
theorem p_in : P2 K (rInA K false) fIn := by
  intro A H x y a b op Q hA ha hb e q
  unfold fIn at e
  cases e1 : inB a b with
  | none => rw [e1] at e; cases e
  | some k => rw [e1] at e; cases e; exact in_core ha hb e1 (q _ _ (pr_val (.bl _)))
theorem p_notIn : P2 K (rInA K true) fNotIn := by
  intro A H x y a b op Q hA ha hb e q
  unfold fNotIn at e
  cases e1 : inB a b with
  | none => rw [e1] at e; cases e
  | some k => rw [e1] at e; cases e; exact in_core ha hb e1 (q _ _ (pr_val (.bl _)))
def isNo : D → Bool
  | .none => true
  | _ => false
def rIsNB : R2 := fun x y H Q => (y = .non ∧ Q (.bl (decide (x = .non))) H) ∨ ∃ a b, x = .bl a ∧ y = .bl b ∧ Q (.bl (decide (a = b))) H
def rNotNB : R2 := fun x y H Q => (y = .non ∧ Q (.bl (!decide (x = .non))) H) ∨ ∃ a b, x = .bl a ∧ y = .bl b ∧ Q (.bl (!decide (a = b))) H
theorem o_is : OpR X (compareOp .Is) rIsNB := OpR.or op_isN op_is_bl
theorem o_isNot : OpR X (compareOp .IsNot) rNotNB := OpR.or op_notN op_isnot_bl
def isB2 : D → D → Option Bool
  | a, .none => some (isNo a)
  | .bool i, .bool j => some (decide (i = j))
  | _, _ => none
def fIs (a b : D) : Option Op := (isB2 a b).map fun k => .val (.bool k)
def fIsNot (a b : D) : Option Op := (isB2 a b).map fun k => .val (.bool (!k))
theorem isNo_dec {A : Fo} {H : Hp} {x : V} {a : D} (h : RB K A H x a) : decide (x = .non) = isNo a := by
  have q := h.isNon
  cases a with
  | none => exact decide_eq_true (q.mpr rfl)
  | _ => exact decide_eq_false fun z => nomatch q.mp z
theorem p_is : P2 K rIsNB fIs := by
  intro A H x y a b op Q hA ha hb e q
  cases b with
  | none =>
    have e : some (Op.val (.bool (isNo a))) = some op := by cases a <;> exact e
    cases e
    exact .inl ⟨hb.non, by rw [isNo_dec ha]; exact q _ _ (pr_val (.bl _))⟩
  | bool j =>
    cases a <;> try cases e
    exact .inr ⟨_, _, ha.bl, hb.bl, q _ _ (pr_val (.bl _))⟩
  | _ => cases a <;> cases e
theorem p_isNot : P2 K rNotNB fIsNot := by
  intro A H x y a b op Q hA ha hb e q
  cases b with
  | none =>
    have e : some (Op.val (.bool (!isNo a))) = some op := by cases a <;> exact e
    cases e
    exact .inl ⟨hb.non, by rw [isNo_dec ha]; exact q _ _ (pr_val (.bl _))⟩
  | bool j =>
    cases a <;> try cases e
    exact .inr ⟨_, _, ha.bl, hb.bl, q _ _ (pr_val (.bl _))⟩
  | _ => cases a <;> cases e
def fIx : D → D → Option Op
  | .list ds, .int i => (atI ds i).map .val
  | .tuple ds, .int i => (atI ds i).map .val
  | .str z, .int i => if z.length ≤ sizeLine then (atI z.cps.toList i).map fun c => .val (.str ⟨#[c]⟩) else none
  | _, _ => none
@[simp] theorem fIx_list (ds : List D) (i : Int) : fIx (.list ds) (.int i) = (atI ds i).map .val := rfl
@[simp] theorem fIx_tup (ds : List D) (i : Int) : fIx (.tuple ds) (.int i) = (atI ds i).map .val := rfl
theorem RDs.atI_get {A : Fo} {H : Hp} {xs : List V} {ds : List D} {i : Int} {d : D} (h : RDs K A H xs ds) (e : atI ds i = some d) : ∃ v, atI xs i = some v ∧ RD K A H v d := by
  unfold atI at e ⊢
  rw [h.length]
  cases q : ixN ds.length i with
  | none => rw [q] at e; cases e
  | some j =>
    rw [q] at e
    obtain ⟨v, q1, q2⟩ := h.get (show ds[j]? = some d from e)
    exact ⟨v, q1, q2⟩
theorem p_ix : P2 K (rIx K) fIx := by
  intro A H x y a b op Q hA ha hb e q
  cases a with
  | list ds =>
    cases b <;> try cases e
    rename_i i
    have e : (atI ds i).map Op.val = some op := e
    cases e1 : atI ds i with
    | none => rw [e1] at e; cases e
    | some d =>
      rw [e1] at e; cases e
      obtain ⟨p, xs, ex, s, r⟩ := ha.lst
      obtain ⟨v, q1, q2⟩ := r.atI_get e1
      exact .inl ⟨p, xs, i, v, ex, hb.int, s, q1, q _ _ (pr_val q2)⟩
  | tuple ds =>
    cases b <;> try cases e
    rename_i i
    have e : (atI ds i).map Op.val = some op := e
    cases e1 : atI ds i with
    | none => rw [e1] at e; cases e
    | some d =>
      rw [e1] at e; cases e
      obtain ⟨p, xs, ex, s, r⟩ := ha.tup
      obtain ⟨v, q1, q2⟩ := r.atI_get e1
      exact .inr (.inl ⟨p, xs, i, v, ex, hb.int, s, q1, q _ _ (pr_val q2)⟩)
  | str z =>
    cases b <;> try cases e
    rename_i i
    have e : (if z.length ≤ sizeLine then (atI z.cps.toList i).map fun c => Op.val (.str ⟨#[c]⟩) else none) = some op := e
    by_cases c : z.length ≤ sizeLine
    · rw [if_pos c] at e
      cases e1 : atI z.cps.toList i with
      | none => rw [e1] at e; cases e
      | some d =>
        rw [e1] at e; cases e
        exact .inr (.inr ⟨z, i, d, ha.str, hb.int, c, e1, q _ _ (pr_val (.str _))⟩)
    · rw [if_neg c] at e; cases e
  | _ => cases e
end
end Vx
set_option maxHeartbeats 2000000
namespace Vx
open PySem PySem.Spec L2
def isI : D → Option Int
  | .int i => some i
  | _ => none
@[simp] theorem isI_int (i : Int) : isI (.int i) = some i := rfl
def bNo : M (Option Int) := fun ρ => .ok none ρ
def bAt (ma : M Op) : M (Option Int) := fun ρ => (ma ρ).bind fun x ρ1 => opt ρ1 ((rd ρ1 x).bind fun d => (isI d).map some)
def mSl (f : Option Int → Option Int → D → Option Op) (ma : M Op) (ml mu : M (Option Int)) : M Op := fun ρ => (ma ρ).bind fun x ρ1 => (ml ρ1).bind fun lo ρ2 => (mu ρ2).bind fun hi ρ3 => opt ρ3 ((rd ρ3 x).bind (f lo hi))
section
variable (K : PySem.W.Frag) (F : Fc)
def GO (T : Fo) (H : Hp) (σ : St) (ρ : Ev) (Q : Option Int → Hp → Prop) : Rs (Option Int) → Prop
  | .ok b ρ' => ∀ H', Rel K F T H' σ ρ' → Ext σ ρ H σ ρ' H' → Q b H'
  | .er x ρ' => ErP K F T H σ ρ x ρ'
  | .no => False
def liftO (m : M (Option Int)) : TO := fun σ H Q => ∃ T ρ, Rel K F T H σ ρ ∧ GO K F T H σ ρ Q (m ρ)
end
theorem _root_.L2.PO.imp2 {X : Cx} {e : Option Expr} {t t' : TO} (h : PO X e t) (i : ∀ σ H Q, t' σ H Q → t σ H Q) : PO X e t' := ⟨fun pins s σ H Q I q => h.run pins s σ H Q I (i _ _ _ q)⟩
section
variable {X : Cx} {F : Fc} {e : Expr} {me : M Op}
theorem qo_none : PO X none (liftO X.K F bNo) := po_none.imp2 fun σ H Q ⟨T, ρ, R, h⟩ => h H R (Ext.refl ..)
theorem qo_some (h : QE X F e me) : PO X (some e) (liftO X.K F (bAt me)) := by
  refine (po_some h).imp2 fun σ H Q ⟨T, ρ, R, h⟩ => ⟨T, ρ, R, ?_⟩
  unfold bAt at h
  cases e1 : me ρ with
  | no => rw [e1] at h; exact h.elim
  | er x ρ' => rw [e1] at h; exact h
  | ok x ρ1 =>
    rw [e1] at h
    intro v H1 p
    have h : GO X.K F T H σ ρ Q (opt ρ1 ((rd ρ1 x).bind fun d => (isI d).map some)) := h
    cases e2 : rd ρ1 x with
    | none => rw [e2] at h; exact h.elim
    | some d =>
      rw [e2] at h
      cases d <;> try exact h.elim
      rename_i i
      exact ⟨i, (p.val.rb p.rel e2).int, h H1 (p.rel.less fun _ z => .inl z) p.ext⟩
end
def P1s (K : PySem.W.Frag) (r : V → Option Int → Option Int → Hp → VK → Prop) (f : Option Int → Option Int → D → Option Op) : Prop := ∀ (A : Fo) (H : Hp) x lo hi a op (Q : VK), (∀ b, A b → H b ≠ none) → RB K A H x a → f lo hi a = some op → (∀ v H', PR K A H H' v op → Q v H') → r x lo hi H Q
theorem qe_sl {X : Cx} {F : Fc} {e : Expr} {lo hi : Option Expr} {me : M Op} {ml mu : M (Option Int)} {r : V → Option Int → Option Int → Hp → VK → Prop} {f : Option Int → Option Int → D → Option Op} {p2 pos : Pos} (hr : SlR X r) (hf : P1s X.K r f)
    (he : QE X F e me) (hl : PO X lo (liftO X.K F ml)) (hu : PO X hi (liftO X.K F mu)) : QE X F (.Subscript e (.Slice lo hi none p2) pos) (mSl f me ml mu) := by
  refine (pe_slice hr he hl hu).imp fun σ H Q ⟨T, ρ, R, h⟩ => ⟨T, ρ, R, ?_⟩
  unfold mSl at h
  cases e1 : me ρ with
  | no => rw [e1] at h; exact h.elim
  | er x ρ' => rw [e1] at h; exact h
  | ok x ρ1 =>
    rw [e1, Rs.bind_ok] at h
    intro v H1 p
    refine ⟨_, ρ1, p.rel, ?_⟩
    cases e2 : ml ρ1 with
    | no => rw [e2] at h; exact h.elim
    | er z ρ' =>
      rw [e2] at h
      exact ErP.back (show ErP X.K F T H σ ρ z ρ' from h) p.ext fun _ z => .inl z
    | ok lo ρ2 =>
      rw [e2, Rs.bind_ok] at h
      intro H2 R2 x2
      refine ⟨_, ρ2, R2, ?_⟩
      cases e3 : mu ρ2 with
      | no => rw [e3] at h; exact h.elim
      | er z ρ' =>
        rw [e3] at h
        exact ErP.back (show ErP X.K F T H σ ρ z ρ' from h) (p.ext.trans x2) fun _ z => .inl z
      | ok hi ρ3 =>
        rw [e3, Rs.bind_ok] at h
        intro H3 R3 x3
        have vx : VOk X.K F (TTf T v x) H3 σ ρ3 v x := p.val.ext p.rel (x2.trans x3) (fun _ z => z) fun _ z => .inl z
        cases e4 : rd ρ3 x with
        | none => rw [e4] at h; exact h.elim
        | some a =>
          rw [e4] at h
          have h : GE X.K F T H σ ρ Q (opt ρ3 (f lo hi a)) := h
          cases e5 : f lo hi a with
          | none => rw [e5] at h; exact h.elim
          | some op =>
            rw [e5] at h
            exact hf _ H3 v lo hi a op Q (fun _ z => R3.fbd z) (vx.rb R3 e4) e5 fun v' H' q => h v' H' (fin_ R3 ((p.ext.trans x2).trans x3) (fun _ z => .inl z) q)
def cutD (xs : List D) (lo hi : Option Int) : List D := (xs.drop (HT.sIx xs.length 0 lo)).take (HT.sIx xs.length xs.length hi - HT.sIx xs.length 0 lo)
def fSl (lo hi : Option Int) : D → Option Op
  | .list ds => some (.fr (.list (cutD ds lo hi)))
  | .tuple ds => some (.val (.tuple (cutD ds lo hi)))
  | .str z => if z.length ≤ sizeLine then some (.val (.str (cutS z lo hi))) else none
  | _ => none
def rSl (K : PySem.W.Frag) : V → Option Int → Option Int → Hp → VK → Prop := fun x lo hi H Q => (rSlL K x lo hi H Q ∨ rSlA K x lo hi H Q) ∨ rSlS x lo hi H Q
theorem s_sl {X : Cx} : SlR X (rSl X.K) := SlR.or (SlR.or sl_list sl_tupA) sl_str
section
variable {K : PySem.W.Frag} {A : Fo} {H : Hp}
theorem RDs.cut {xs : List V} {ds : List D} (h : RDs K A H xs ds) (lo hi : Option Int) : RDs K A H (cutV xs lo hi) (cutD ds lo hi) := by
  unfold cutV cutD
  rw [h.length]
  exact (h.drop _).take _
theorem cut_all {ds : List D} {lo hi : Option Int} (h : HT.sIx ds.length 0 lo = 0 ∧ HT.sIx ds.length ds.length hi = ds.length) : cutD ds lo hi = ds := by
  unfold cutD
  rw [h.1, h.2, List.drop_zero, Nat.sub_zero, List.take_length]
theorem p_sl : P1s K (rSl K) fSl := by
  intro A H x lo hi a op Q hA ha e q
  cases a with
  | list ds =>
    cases e
    obtain ⟨p, xs, ex, s, r⟩ := ha.lst
    exact .inl (.inl ⟨p, xs, ex, s, fun l hl => q _ _ (pr_lst hl (r.cut lo hi))⟩)
  | tuple ds =>
    cases e
    obtain ⟨p, xs, ex, s, r⟩ := ha.tup
    refine .inl (.inr ⟨p, xs, ex, s, fun z => ?_, fun _ l hl => q _ _ (pr_tup hl hA (r.cut lo hi))⟩)
    rw [r.length] at z
    rw [cut_all z] at q
    exact q _ _ (pr_val (by rw [← ex]; exact ha.tupR))
  | str z =>
    have e : (if z.length ≤ sizeLine then some (Op.val (.str (cutS z lo hi))) else none) = some op := e
    by_cases c : z.length ≤ sizeLine
    · rw [if_pos c] at e; cases e
      exact .inr ⟨z, ha.str, c, q _ _ (pr_val (.str _))⟩
    · rw [if_neg c] at e; cases e
  | _ => cases e
/-- xs[::-1] -/
def fRev : D → Option Op
  | .list ds => some (.fr (.list ds.reverse))
  | _ => none
@[simp] theorem fRev_list (ds : List D) : fRev (.list ds) = some (.fr (.list ds.reverse)) := rfl
def rRev (K : PySem.W.Frag) : V → Hp → VK → Prop := fun x H Q => ∃ a xs, x = .ref a ∧ SqL K H a xs ∧ ∀ p, H p = none → Q (.ref p) (upd H p (.lst xs.reverse))
theorem p_rev : P1 K (rRev K) fRev := by
  intro A H x a op Q hA ha e q
  cases a <;> try cases e
  obtain ⟨p, xs, ex, s, r⟩ := ha.lst
  exact ⟨p, xs, ex, s, fun l hl => q _ _ (pr_lst hl r.reverse)⟩
theorem qe_rev {X : Cx} {F : Fc} {e : Expr} {me : M Op} {k : Nat} {p1 p2 p3 pos : Pos} (he : QE X F e me) : QE X F (.Subscript e (.Slice none none (some (.UnaryOp .USub (.Constant (.int 1) k p1) p2)) p3) pos) (m1 fRev me) :=
  (pe_revL he).imp fun σ H Q h => lift1 p_rev h
end
end Vx
set_option maxHeartbeats 2000000
namespace Vx
open PySem PySem.Spec L2
section
variable {K : PySem.W.Frag} {A : Fo} {H : Hp}
theorem RBs.one {vs : List V} {d : D} (h : RBs K A H vs [d]) : ∃ v, vs = [v] ∧ RB K A H v d := by
  cases h with
  | cons r t => cases t; exact ⟨_, rfl, r⟩
theorem RBs.two {vs : List V} {d e : D} (h : RBs K A H vs [d, e]) : ∃ v u, vs = [v, u] ∧ RB K A H v d ∧ RB K A H u e := by
  cases h with
  | cons r t =>
    obtain ⟨u, e, q⟩ := t.one
    subst e
    exact ⟨_, _, rfl, r, q⟩
/-- one argument -/
def f1 (f : D → Option Op) : List D → Option Op
  | [d] => f d
  | _ => none
@[simp] theorem f1_one (f : D → Option Op) (d : D) : f1 f [d] = f d := rfl
theorem pn_1 {r : List V → Hp → VK → Prop} {f : D → Option Op} (h : P1 K (fun x H Q => r [x] H Q) f) : Pn K r (f1 f) := by
  intro A H xs as op Q hA hs e q
  match as, e, hs with
  | [d], e, hs =>
    obtain ⟨v, ev, r⟩ := hs.one
    subst ev
    exact h A H v d op Q hA r e q
def fAbs : D → Option Op
  | .int i => some (.val (.int (if i < 0 then -i else i)))
  | _ => none
theorem fAbs_int (i : Int) : fAbs (.int i) = some (.val (.int (if i < 0 then -i else i))) := rfl
theorem p_abs : Pn K (fun xs H Q => ∃ i, xs = [.int i] ∧ Q (.int (if i < 0 then -i else i)) H) (f1 fAbs) := pn_1 (by
  intro A H x a op Q hA ha e q
  cases a <;> try cases e
  exact ⟨_, by rw [ha.int], q _ _ (pr_val (.int _))⟩)
def fInt : D → Option Op
  | .int i => some (.val (.int i))
  | .bool k => some (.val (.int (if k then 1 else 0)))
  | _ => none
@[simp] theorem fInt_int (i : Int) : fInt (.int i) = some (.val (.int i)) := rfl
@[simp] theorem fInt_bool (i : Bool) : fInt (.bool i) = some (.val (.int (if i then 1 else 0))) := rfl
theorem p_int : Pn K (fun xs H Q => (∃ i, xs = [.int i] ∧ Q (.int i) H) ∨ ∃ k, xs = [.bl k] ∧ Q (.int (if k then 1 else 0)) H) (f1 fInt) := pn_1 (by
  intro A H x a op Q hA ha e q
  cases a <;> try cases e
  · exact .inr ⟨_, by rw [ha.bl], q _ _ (pr_val (.int _))⟩
  · exact .inl ⟨_, by rw [ha.int], q _ _ (pr_val (.int _))⟩)
def lenD : D → Option Nat
  | .list ds => some ds.length
  | .tuple ds => some ds.length
  | .str z => if z.length ≤ sizeLine then some z.length else none
  | .dict kvs => some kvs.length
  | _ => none
def fLen (d : D) : Option Op := (lenD d).map fun n => .val (.int (n : Nat))
def rLen (K : PySem.W.Frag) : List V → Hp → VK → Prop := fun xs H Q => ((∃ p ys, xs = [.ref p] ∧ (SqL K H p ys ∨ SqT K H p ys) ∧ Q (.int ys.length) H) ∨ (∃ z, xs = [.str z] ∧ z.length ≤ sizeLine ∧ Q (.int z.length) H)) ∨
  ∃ a kvs, xs = [V.ref a] ∧ H a = some (.dK kvs) ∧ Q (.int kvs.length) H
theorem c_len {X : Cx} : CallR X (.builtin "len") (rLen X.K) := CallR.or (CallR.or call_len_seq call_len_str) call_lenD
theorem RKs.length : ∀ {kvs : List (Key × V)} {ks : List (D × D)}, RKs K A H kvs ks → kvs.length = ks.length
  | [], [], _ => rfl
  | _ :: _, _ :: _, .cons _ t => congrArg (· + 1) (RKs.length t)
theorem p_len : Pn K (rLen K) (f1 fLen) := pn_1 (by
  intro A H x a op Q hA ha e q
  cases a with
  | list ds =>
    cases e
    obtain ⟨p, xs, ex, s, r⟩ := ha.lst
    exact .inl (.inl ⟨p, xs, by rw [ex], .inl s, by rw [r.length]; exact q _ _ (pr_val (.int _))⟩)
  | tuple ds =>
    cases e
    obtain ⟨p, xs, ex, s, r⟩ := ha.tup
    exact .inl (.inl ⟨p, xs, by rw [ex], .inr s, by rw [r.length]; exact q _ _ (pr_val (.int _))⟩)
  | dict ks =>
    cases e
    obtain ⟨p, xs, ex, s, r⟩ := ha.dct
    exact .inr ⟨p, xs, by rw [ex], s, by rw [r.length]; exact q _ _ (pr_val (.int _))⟩
  | str z =>
    have e : (if z.length ≤ sizeLine then some z.length else none).map (fun n => Op.val (.int (n : Nat))) = some op := e
    by_cases c : z.length ≤ sizeLine
    · rw [if_pos c] at e; cases e
      exact .inl (.inr ⟨z, by rw [ha.str], c, q _ _ (pr_val (.int _))⟩)
    · rw [if_neg c] at e; cases e
  | _ => cases e)
def intsD : List D → Option (List Int)
  | [] => some []
  | .int i :: ds => (intsD ds).map (i :: ·)
  | _ => none
@[simp] theorem intsD_map (ns : List Int) : intsD (ns.map .int) = some ns := by
  induction ns with
  | nil => rfl
  | cons i ns ih => simp [intsD, ih]
theorem intsD_eq : ∀ {ds : List D} {ns : List Int}, intsD ds = some ns → ds = ns.map .int
  | [], ns, e => by cases e; rfl
  | .int i :: ds, ns, e => by
    have e : (intsD ds).map (i :: ·) = some ns := e
    cases q : intsD ds with
    | none => rw [q] at e; cases e
    | some ms => rw [q] at e; cases e; rw [intsD_eq q]; rfl
  | .none :: _, _, e => by cases e
  | .bool _ :: _, _, e => by cases e
  | .str _ :: _, _, e => by cases e
  | .list _ :: _, _, e => by cases e
  | .tuple _ :: _, _, e => by cases e
  | .dict _ :: _, _, e => by cases e
def boolsD : List D → Option (List Bool)
  | [] => some []
  | .bool i :: ds => (boolsD ds).map (i :: ·)
  | _ => none
@[simp] theorem boolsD_map (ns : List Bool) : boolsD (ns.map .bool) = some ns := by
  induction ns with
  | nil => rfl
  | cons i ns ih => simp [boolsD, ih]
theorem boolsD_eq : ∀ {ds : List D} {ns : List Bool}, boolsD ds = some ns → ds = ns.map .bool
  | [], ns, e => by cases e; rfl
  | .bool i :: ds, ns, e => by
    have e : (boolsD ds).map (i :: ·) = some ns := e
    cases q : boolsD ds with
    | none => rw [q] at e; cases e
    | some ms => rw [q] at e; cases e; rw [boolsD_eq q]; rfl
  | .none :: _, _, e => by cases e
  | .int _ :: _, _, e => by cases e
  | .str _ :: _, _, e => by cases e
  | .list _ :: _, _, e => by cases e
  | .tuple _ :: _, _, e => by cases e
  | .dict _ :: _, _, e => by cases e
/-- a list of ints -/
def lInts : D → Option (List Int)
  | .list ds => intsD ds
  | _ => none
def lBools : D → Option (List Bool)
  | .list ds => boolsD ds
  | _ => none
@[simp] theorem lInts_list (ds : List D) : lInts (.list ds) = intsD ds := rfl
@[simp] theorem lBools_list (ds : List D) : lBools (.list ds) = boolsD ds := rfl
theorem RB.lInts {v : V} {d : D} {ns : List Int} (h : RB K A H v d) (e : Vx.lInts d = some ns) : ∃ a, v = .ref a ∧ SqL K H a (ns.map V.int) := by
  cases d <;> try cases e
  have e := intsD_eq e
  obtain ⟨a, xs, ex, s, r⟩ := h.lst
  rw [e] at r
  exact ⟨a, ex, by rw [← r.of_ints]; exact s⟩
theorem RB.lBools {v : V} {d : D} {ns : List Bool} (h : RB K A H v d) (e : Vx.lBools d = some ns) : ∃ a, v = .ref a ∧ SqL K H a (ns.map V.bl) := by
  cases d <;> try cases e
  have e := boolsD_eq e
  obtain ⟨a, xs, ex, s, r⟩ := h.lst
  rw [e] at r
  exact ⟨a, ex, by rw [← r.of_bools]; exact s⟩
def fAny (d : D) : Option Op := (lBools d).map fun bs => .val (.bool (bs.any id))
def fAll (d : D) : Option Op := (lBools d).map fun bs => .val (.bool (bs.all id))
def fSum (d : D) : Option Op := (lInts d).map fun bs => .val (.int bs.sum)
theorem p_any : Pn K (rAny K) (f1 fAny) := pn_1 (by
  intro A H x a op Q hA ha e q
  unfold fAny at e
  cases e1 : lBools a with
  | none => rw [e1] at e; cases e
  | some bs =>
    rw [e1] at e; cases e
    obtain ⟨p, ex, s⟩ := ha.lBools e1
    exact ⟨p, bs, by rw [ex], s, q _ _ (pr_val (.bl _))⟩)
theorem p_all : Pn K (rAll K) (f1 fAll) := pn_1 (by
  intro A H x a op Q hA ha e q
  unfold fAll at e
  cases e1 : lBools a with
  | none => rw [e1] at e; cases e
  | some bs =>
    rw [e1] at e; cases e
    obtain ⟨p, ex, s⟩ := ha.lBools e1
    exact ⟨p, bs, by rw [ex], s, q _ _ (pr_val (.bl _))⟩)
theorem p_sum : Pn K (rSum K) (f1 fSum) := pn_1 (by
  intro A H x a op Q hA ha e q
  unfold fSum at e
  cases e1 : lInts a with
  | none => rw [e1] at e; cases e
  | some bs =>
    rw [e1] at e; cases e
    obtain ⟨p, ex, s⟩ := ha.lInts e1
    exact ⟨p, bs, by rw [ex], s, q _ _ (pr_val (.int _))⟩)
/-- the greatest, the least -/
def mxI (m : Int) : List Int → Int
  | [] => m
  | n :: ns => mxI (if m < n then n else m) ns
def mnI (m : Int) : List Int → Int
  | [] => m
  | n :: ns => mnI (if n < m then n else m) ns
theorem mxI_le : ∀ (ns : List Int) (m : Int), m ≤ mxI m ns ∧ ∀ y ∈ ns, y ≤ mxI m ns
  | [], m => ⟨Int.le_refl m, fun y h => nomatch h⟩
  | n :: ns, m => by
    obtain ⟨h1, h2⟩ := mxI_le ns (if m < n then n else m)
    have k1 : m ≤ (if m < n then n else m) ∧ n ≤ (if m < n then n else m) := by split <;> omega
    refine ⟨?_, fun y h => ?_⟩
    · show m ≤ mxI (if m < n then n else m) ns
      exact Int.le_trans k1.1 h1
    · show y ≤ mxI (if m < n then n else m) ns
      rcases List.mem_cons.mp h with z | z
      · subst z; exact Int.le_trans k1.2 h1
      · exact h2 y z
theorem mxI_mem : ∀ (ns : List Int) (m : Int), mxI m ns = m ∨ mxI m ns ∈ ns
  | [], m => .inl rfl
  | n :: ns, m => by
    show mxI (if m < n then n else m) ns = m ∨ mxI (if m < n then n else m) ns ∈ n :: ns
    rcases mxI_mem ns (if m < n then n else m) with h | h
    · rw [h]; split
      · exact .inr List.mem_cons_self
      · exact .inl rfl
    · exact .inr (List.mem_cons_of_mem _ h)
theorem mnI_le : ∀ (ns : List Int) (m : Int), mnI m ns ≤ m ∧ ∀ y ∈ ns, mnI m ns ≤ y
  | [], m => ⟨Int.le_refl m, fun y h => nomatch h⟩
  | n :: ns, m => by
    obtain ⟨h1, h2⟩ := mnI_le ns (if n < m then n else m)
    have k1 : (if n < m then n else m) ≤ m ∧ (if n < m then n else m) ≤ n := by split <;> omega
    refine ⟨?_, fun y h => ?_⟩
    · show mnI (if n < m then n else m) ns ≤ m
      exact Int.le_trans h1 k1.1
    · show mnI (if n < m then n else m) ns ≤ y
      rcases List.mem_cons.mp h with z | z
      · subst z; exact Int.le_trans h1 k1.2
      · exact h2 y z
theorem mnI_mem : ∀ (ns : List Int) (m : Int), mnI m ns = m ∨ mnI m ns ∈ ns
  | [], m => .inl rfl
  | n :: ns, m => by
    show mnI (if n < m then n else m) ns = m ∨ mnI (if n < m then n else m) ns ∈ n :: ns
    rcases mnI_mem ns (if n < m then n else m) with h | h
    · rw [h]; split
      · exact .inr List.mem_cons_self
      · exact .inl rfl
    · exact .inr (List.mem_cons_of_mem _ h)
def mx1 : List Int → Option Op
  | n :: ns => some (.val (.int (mxI n ns)))
  | [] => none
def mn1 : List Int → Option Op
  | n :: ns => some (.val (.int (mnI n ns)))
  | [] => none
@[simp] theorem mx1_cons (n : Int) (ns : List Int) : mx1 (n :: ns) = some (.val (.int (mxI n ns))) := rfl
@[simp] theorem mn1_cons (n : Int) (ns : List Int) : mn1 (n :: ns) = some (.val (.int (mnI n ns))) := rfl
def fMax : List D → Option Op
  | [d] => (lInts d).bind mx1
  | [a, b] => f2I (fun i j => some (.int (if j > i then j else i))) a b
  | _ => none
def fMin : List D → Option Op
  | [d] => (lInts d).bind mn1
  | [a, b] => f2I (fun i j => some (.int (if j < i then j else i))) a b
  | _ => none
@[simp] theorem fMax_1 (d : D) : fMax [d] = (lInts d).bind mx1 := rfl
@[simp] theorem fMin_1 (d : D) : fMin [d] = (lInts d).bind mn1 := rfl
@[simp] theorem fMax_2 (i j : Int) : fMax [.int i, .int j] = some (.val (.int (if j > i then j else i))) := rfl
@[simp] theorem fMin_2 (i j : Int) : fMin [.int i, .int j] = some (.val (.int (if j < i then j else i))) := rfl
def rMaxA (K : PySem.W.Frag) : List V → Hp → VK → Prop := fun xs H Q => rMax K xs H Q ∨ ∃ i j, xs = [.int i, .int j] ∧ Q (.int (if j > i then j else i)) H
def rMinA (K : PySem.W.Frag) : List V → Hp → VK → Prop := fun xs H Q => rMin K xs H Q ∨ ∃ i j, xs = [.int i, .int j] ∧ Q (.int (if j < i then j else i)) H
theorem c_max {X : Cx} (hc : X.calm = true) : CallR X (.builtin "max") (rMaxA X.K) := CallR.or (cr_max hc) (call_max2 hc)
theorem c_min {X : Cx} (hc : X.calm = true) : CallR X (.builtin "min") (rMinA X.K) := CallR.or (cr_min hc) (call_min2 hc)
theorem p_max : Pn K (rMaxA K) fMax := by
  intro A H xs as op Q hA hs e q
  match as, hs with
  | [d], hs =>
    obtain ⟨v, ev, r⟩ := hs.one
    subst ev
    have e : (lInts d).bind mx1 = some op := e
    cases e1 : lInts d with
    | none => rw [e1] at e; cases e
    | some ns =>
      rw [e1] at e
      cases ns with
      | nil => cases e
      | cons n ns =>
        cases e
        obtain ⟨p, ex, s⟩ := r.lInts e1
        refine .inl ⟨p, n :: ns, by rw [ex], s, Nat.succ_pos _, fun m hm hy => ?_⟩
        have : m = mxI n ns := by
          obtain ⟨l1, l2⟩ := mxI_le ns n
          have a1 : mxI n ns ≤ m := by
            rcases mxI_mem ns n with z | z
            · rw [z]; exact hy n List.mem_cons_self
            · exact hy _ (List.mem_cons_of_mem _ z)
          have a2 : m ≤ mxI n ns := by
            rcases List.mem_cons.mp hm with z | z
            · rw [z]; exact l1
            · exact l2 m z
          omega
        rw [this]
        exact q _ _ (pr_val (.int _))
  | [d, d2], hs =>
    obtain ⟨v, u, ev, r1, r2⟩ := hs.two
    subst ev
    have e : f2I (fun i j => some (.int (if j > i then j else i))) d d2 = some op := e
    cases d with
    | int i =>
      cases d2 with
      | int j =>
        cases e
        exact .inr ⟨i, j, by rw [r1.int, r2.int], q _ _ (pr_val (.int _))⟩
      | _ => cases e
    | _ => cases e
  | [], hs => cases e
  | _ :: _ :: _ :: _, hs => cases e
theorem p_min : Pn K (rMinA K) fMin := by
  intro A H xs as op Q hA hs e q
  match as, hs with
  | [d], hs =>
    obtain ⟨v, ev, r⟩ := hs.one
    subst ev
    have e : (lInts d).bind mn1 = some op := e
    cases e1 : lInts d with
    | none => rw [e1] at e; cases e
    | some ns =>
      rw [e1] at e
      cases ns with
      | nil => cases e
      | cons n ns =>
        cases e
        obtain ⟨p, ex, s⟩ := r.lInts e1
        refine .inl ⟨p, n :: ns, by rw [ex], s, Nat.succ_pos _, fun m hm hy => ?_⟩
        have : m = mnI n ns := by
          obtain ⟨l1, l2⟩ := mnI_le ns n
          have a1 : m ≤ mnI n ns := by
            rcases mnI_mem ns n with z | z
            · rw [z]; exact hy n List.mem_cons_self
            · exact hy _ (List.mem_cons_of_mem _ z)
          have a2 : mnI n ns ≤ m := by
            rcases List.mem_cons.mp hm with z | z
            · rw [z]; exact l1
            · exact l2 m z
          omega
        rw [this]
        exact q _ _ (pr_val (.int _))
  | [d, d2], hs =>
    obtain ⟨v, u, ev, r1, r2⟩ := hs.two
    subst ev
    have e : f2I (fun i j => some (.int (if j < i then j else i))) d d2 = some op := e
    cases d with
    | int i =>
      cases d2 with
      | int j =>
        cases e
        exact .inr ⟨i, j, by rw [r1.int, r2.int], q _ _ (pr_val (.int _))⟩
      | _ => cases e
    | _ => cases e
  | [], hs => cases e
  | _ :: _ :: _ :: _, hs => cases e
def fTuple : D → Option Op
  | .list ds => some (.val (.tuple ds))
  | .tuple ds => some (.val (.tuple ds))
  | _ => none
def fList : D → Option Op
  | .list ds => some (.fr (.list ds))
  | .tuple ds => some (.fr (.list ds))
  | _ => none
@[simp] theorem fTuple_list (ds : List D) : fTuple (.list ds) = some (.val (.tuple ds)) := rfl
@[simp] theorem fTuple_tuple (ds : List D) : fTuple (.tuple ds) = some (.val (.tuple ds)) := rfl
@[simp] theorem fList_list (ds : List D) : fList (.list ds) = some (.fr (.list ds)) := rfl
@[simp] theorem fList_tuple (ds : List D) : fList (.tuple ds) = some (.fr (.list ds)) := rfl
theorem p_tuple : Pn K (fun xs H Q => ∃ p ys, xs = [.ref p] ∧ ((SqL K H p ys ∧ ∀ l, H l = none → Q (.ref l) (upd H l (.tup ys))) ∨ (SqT K H p ys ∧ Q (.ref p) H))) (f1 fTuple) := pn_1 (by
  intro A H x a op Q hA ha e q
  cases a with
  | list ds =>
    cases e
    obtain ⟨p, xs, ex, s, r⟩ := ha.lst
    exact ⟨p, xs, by rw [ex], .inl ⟨s, fun l hl => q _ _ (pr_tup hl hA r)⟩⟩
  | tuple ds =>
    cases e
    obtain ⟨p, xs, ex, s, r⟩ := ha.tup
    exact ⟨p, xs, by rw [ex], .inr ⟨s, q _ _ (pr_val (by rw [← ex]; exact ha.tupR))⟩⟩
  | _ => cases e)
theorem p_list : Pn K (fun xs H Q => ∃ p ys, xs = [.ref p] ∧ (SqL K H p ys ∨ SqT K H p ys) ∧ ∀ l, H l = none → Q (.ref l) (upd H l (.lst ys))) (f1 fList) := pn_1 (by
  intro A H x a op Q hA ha e q
  cases a with
  | list ds =>
    cases e
    obtain ⟨p, xs, ex, s, r⟩ := ha.lst
    exact ⟨p, xs, by rw [ex], .inl s, fun l hl => q _ _ (pr_lst hl r)⟩
  | tuple ds =>
    cases e
    obtain ⟨p, xs, ex, s, r⟩ := ha.tup
    exact ⟨p, xs, by rw [ex], .inr s, fun l hl => q _ _ (pr_lst hl r)⟩
  | _ => cases e)
def insI (m : Int) : List Int → List Int
  | [] => [m]
  | n :: ns => if m ≤ n then m :: n :: ns else n :: insI m ns
def sortI : List Int → List Int
  | [] => []
  | n :: ns => insI n (sortI ns)
theorem insI_perm (m : Int) : ∀ ns : List Int, (insI m ns).Perm (m :: ns)
  | [] => List.Perm.refl _
  | n :: ns => by
    unfold insI
    split
    · exact List.Perm.refl _
    · exact ((insI_perm m ns).cons n).trans (List.Perm.swap m n ns)
theorem sortI_perm : ∀ ns : List Int, (sortI ns).Perm ns
  | [] => List.Perm.refl _
  | n :: ns => (insI_perm n _).trans ((sortI_perm ns).cons n)
theorem insI_sorted (m : Int) : ∀ ns : List Int, ns.Pairwise (· ≤ ·) → (insI m ns).Pairwise (· ≤ ·)
  | [], _ => List.pairwise_singleton _ _
  | n :: ns, h => by
    obtain ⟨h1, h2⟩ := List.pairwise_cons.mp h
    unfold insI
    split
    · rename_i c
      refine List.pairwise_cons.mpr ⟨fun y hy => ?_, h⟩
      rcases List.mem_cons.mp hy with z | z
      · omega
      · have := h1 y z; omega
    · rename_i c
      refine List.pairwise_cons.mpr ⟨fun y hy => ?_, insI_sorted m ns h2⟩
      rcases List.mem_cons.mp ((insI_perm m ns).mem_iff.mp hy) with z | z
      · omega
      · exact h1 y z
theorem sortI_sorted : ∀ ns : List Int, (sortI ns).Pairwise (· ≤ ·)
  | [] => List.Pairwise.nil
  | n :: ns => insI_sorted n _ (sortI_sorted ns)
theorem sorted_uniq : ∀ {a b : List Int}, a.Perm b → a.Pairwise (· ≤ ·) → b.Pairwise (· ≤ ·) → a = b
  | [], b, p, _, _ => by
    have := p.length_eq
    cases b with
    | nil => rfl
    | cons _ _ => cases this
  | x :: a, [], p, _, _ => by
    have := p.length_eq
    cases this
  | x :: a, y :: b, p, h1, h2 => by
    obtain ⟨h1a, h1b⟩ := List.pairwise_cons.mp h1
    obtain ⟨h2a, h2b⟩ := List.pairwise_cons.mp h2
    have e : x = y := by
      have m1 : x ∈ y :: b := p.mem_iff.mp List.mem_cons_self
      have m2 : y ∈ x :: a := p.mem_iff.mpr List.mem_cons_self
      rcases List.mem_cons.mp m1 with z | z
      · exact z
      · rcases List.mem_cons.mp m2 with z2 | z2
        · exact z2.symm
        · have := h1a y z2
          have := h2a x z
          omega
    subst e
    rw [sorted_uniq ((List.perm_cons x).mp p) h1b h2b]
def fSorted (d : D) : Option Op := (lInts d).map fun ns => .fr (.list ((sortI ns).map .int))
theorem p_sorted : Pn K (rSortedI K) (f1 fSorted) := pn_1 (by
  intro A H x a op Q hA ha e q
  unfold fSorted at e
  cases e1 : lInts a with
  | none => rw [e1] at e; cases e
  | some ns =>
    rw [e1] at e; cases e
    obtain ⟨p, ex, s⟩ := ha.lInts e1
    refine ⟨p, ns, by rw [ex], s, fun ns' l hp hs hl => ?_⟩
    rw [sorted_uniq (hp.trans (sortI_perm ns).symm) hs (sortI_sorted ns)]
    exact q _ _ (pr_lst hl (RDs.ints _)))
end
end Vx
set_option maxHeartbeats 2000000
namespace Vx
open PySem PySem.Spec L2
def tyD : D → String
  | .none => "NoneType"
  | .bool _ => "bool"
  | .int _ => "int"
  | .str _ => "str"
  | .list _ => "list"
  | .tuple _ => "tuple"
  | .dict _ => "dict"
def fIsi (ts : List String) (d : D) : Option Op := some (.val (.bool (ts.contains (tyD d))))
def tysD : List String := ["NoneType", "bool", "int", "str", "list", "tuple", "dict"]
theorem tyD_mem (d : D) : tyD d ∈ tysD := by cases d <;> simp [tyD, tysD]
theorem RB.tyX {K : PySem.W.Frag} {A : Fo} {H : Hp} {v : V} {d : D} (h : RB K A H v d) : TyX K H v (.type (tyD d)) := by
  cases d with
  | none => rw [h.non]; exact .base .non
  | bool b => rw [h.bl]; exact .base (.bl b)
  | int i => rw [h.int]; exact .base (.int i)
  | str z => rw [h.str]; exact .base (.str z)
  | list ds =>
    obtain ⟨a, xs, ex, s, r⟩ := h.lst
    subst ex
    rcases s with (s | ⟨o, s⟩) | ⟨o, its, n, s, c, _⟩
    · exact .base (.lst s)
    · exact .base (.frz s)
    · exact .kList s c
  | tuple ds =>
    obtain ⟨a, xs, ex, s, r⟩ := h.tup
    subst ex
    rcases s with (s | ⟨o, s⟩) | ⟨o, its, n, s, c, _⟩
    · exact .base (.tup s)
    · exact .fTuple s
    · exact .kTuple s c
  | dict ds =>
    obtain ⟨a, xs, ex, s, r⟩ := h.dct
    subst ex
    exact .base (.dK s)
def rIsiA (T : String) (b : List String) : Bool := tysD.all fun t => kitB t T == some (b.contains t)
theorem qe_isi {X : Cx} {F : Fc} {e : Expr} {me : M Op} {y : Str} {T : String} {ts : List String} {p p2 pos : Pos} (ht : rIsiA T ts = true) (hg : Gl X "isinstance") (hm : X.mg "isinstance" = none) (hgy : Gl X y) (hmy : X.mg y = none) (hvy : bootBuiltins y = some (.type T)) (he : QE X F e me)
    (hv : bootBuiltins "isinstance" = some (.builtin "isinstance") := by rfl) (hny : y ≠ "__name__" := by decide) (hdy : (y == ("__debug__" : Str)) = false := by decide)
    (hs1 : starEach [e, .Name y p2] X.env = (false, eval e X.env) :: starEach [.Name y p2] X.env := by rfl) (hs2 : starEach [.Name y p2] X.env = (false, eval (.Name y p2) X.env) :: starEach [] X.env := by rfl)
    (hpl : (backTo pos (starEach [.Name y p2] X.env)).any (·.1) = false := by rfl) : QE X F (.Call (.Name "isinstance" p) [e, .Name y p2] [] pos) (m1 (fIsi ts) me) := by
  have a2 : PE X (.Name y p2) (tC (.ty T)) := pe_bltn hgy hmy hvy rfl hny hdy
  refine (pe_callB (r := rIsi X.K) call_isi hg hm hv (pa_cons he (pa_cons a2 pa_nil hs2) hs1) (by decide) (by decide) hs1 hpl).imp fun σ H Q h => ?_
  refine lift1 (r := fun x H Q => rIsi X.K [x, .ty T] H Q) ?_ h
  intro A H x a op Q hA ha e q
  cases e
  have k := List.all_eq_true.mp ht (tyD a) (tyD_mem a)
  exact ⟨x, .ty T, _, _, _, rfl, .ty T, ha.tyX, kit_ty (eq_of_beq k), q _ _ (pr_val (.bl _))⟩
theorem isi_int : rIsiA "int" ["int", "bool"] = true := by decide +kernel
theorem isi_bool : rIsiA "bool" ["bool"] = true := by decide +kernel
theorem isi_str : rIsiA "str" ["str"] = true := by decide +kernel
theorem isi_list : rIsiA "list" ["list"] = true := by decide +kernel
theorem isi_tuple : rIsiA "tuple" ["tuple"] = true := by decide +kernel
theorem isi_dict : rIsiA "dict" ["dict"] = true := by decide +kernel
def lsS : Option Sl → Option (List D)
  | some (.ow (.list ds)) => some ds
  | some (.le (.list ds)) => some ds
  | _ => none
@[simp] theorem lsS_ow (ds : List D) : lsS (some (.ow (.list ds))) = some ds := rfl
@[simp] theorem lsS_le (ds : List D) : lsS (some (.le (.list ds))) = some ds := rfl
section
variable {K : PySem.W.Frag} {F : Fc} {T : Fo} {H : Hp} {σ : St} {ρ : Ev}
theorem lsS_own {s : Option Sl} {ds : List D} (h : lsS s = some ds) : OwnS s = true := by
  cases s with
  | none => cases h
  | some s => cases s <;> first | rfl | cases h
theorem lsS_putS {s : Option Sl} {ds : List D} (h : lsS s = some ds) (d : D) : ∃ s', putS d s = some s' := by
  cases s with
  | none => cases h
  | some s => cases s <;> first | exact ⟨_, rfl⟩ | cases h
theorem Rel.lsGet (R : Rel K F T H σ ρ) {i : Nat} {ds : List D} (h : lsS ρ[i]? = some ds) : ∃ a xs, σ[i]? = some (some (V.ref a)) ∧ H a = some (.lst xs) ∧ RDs K (Fb F T σ ρ) H xs ds := by
  cases q : ρ[i]? with
  | none => rw [q] at h; cases h
  | some s =>
    rw [q] at h
    cases s with
    | ow d =>
      obtain ⟨a, q1, q2, _⟩ := R.ow i d q
      cases d <;> try cases h
      obtain ⟨xs, q3, q4⟩ := q2
      exact ⟨a, xs, q1, q3, q4⟩
    | le d =>
      obtain ⟨a, _, q1, q2, _⟩ := R.le i d q
      cases d <;> try cases h
      obtain ⟨xs, q3, q4⟩ := q2
      exact ⟨a, xs, q1, q3, q4⟩
    | _ => cases h
/-- the slot's list is another now -/
theorem Rel.lsPut (R : Rel K F T H σ ρ) {i : Nat} {ds es : List D} (h : lsS ρ[i]? = some ds) {a : Addr} {xs ys : List V} (hv : σ[i]? = some (some (V.ref a))) (ha : H a = some (.lst xs)) (hy : RDs K (Fb F T σ ρ) H ys es) :
    ∃ ρ3, putA [i] [.list es] ρ = some ρ3 ∧ Rel K F T (upd H a (.lst ys)) σ ρ3 ∧ Ext σ ρ H σ ρ3 (upd H a (.lst ys)) ∧ (∀ b, OS σ ρ3 b → OS σ ρ b) ∧ Le (Fb F T σ ρ) H (Fb F T σ ρ3) (upd H a (.lst ys)) := by
  obtain ⟨s, hs⟩ := lsS_putS h (.list es)
  have e : putA [i] [.list es] ρ = some (ρ.set i s) := by
    show (putS (.list es) ρ[i]?).bind (fun s => putA [] [] (ρ.set i s)) = _
    rw [hs]; rfl
  have oa : OS σ ρ a := ⟨i, lsS_own h, hv⟩
  have l : Le (Fb F T σ ρ) H (Fb F T σ ρ) (upd H a (.lst ys)) := ⟨fun b o q _ n => by
    have nb : b ≠ a := fun z => n (.inr (.inr (by rw [z]; exact oa)))
    rw [upd_ne nb]; exact q, fun b z => .inl z, fun b q => by
    by_cases c : b = a
    · rw [c, upd_same]; exact fun z => nomatch z
    · rw [upd_ne c]; exact q⟩
  obtain ⟨r1, r2, r3⟩ := R.put (T' := T) (H' := upd H a (.lst ys)) (fun _ z => .inl z) (is := [i]) (ls := [a]) (outs := [.list es]) (List.nodup_cons.mpr (And.intro (fun z => nomatch z) List.nodup_nil)) (.cons hv .nil)
    ⟨fun b o q _ n => by
      have nb : b ≠ a := fun z => n (List.mem_singleton.mpr z)
      rw [upd_ne nb]; exact q, fun b q => by
      by_cases c : b = a
      · rw [c, upd_same]; exact fun z => nomatch z
      · rw [upd_ne c]; exact q, tabs_lst R.tabs ha⟩ (.cons ⟨ys, upd_same, RDs.mono l _ _ hy⟩ .nil) e
  refine ⟨_, e, r1, r2, r3, ?_⟩
  refine ⟨l.1, fun b z => ?_, l.dom⟩
  rcases z with z | z | z
  · exact .inl (.inl z)
  · exact .inl (.inr (.inl z))
  · exact .inl (.inr (.inr (r3 b z)))
end
/-- xs.append(e) -/
def meApp (i : Nat) (mk : M D) : M Op := fun ρ => if (lsS ρ[i]?).isSome = true then (mk ρ).bind fun d ρ1 => opt2 ρ1 ((lsS ρ1[i]?).bind fun ds => if ds.length < sizeLine then (putA [i] [.list (ds ++ [d])] ρ1).map fun ρ2 => (.val .none, ρ2) else none) else .no
where opt2 (ρ1 : Ev) : Option (Op × Ev) → Rs Op
  | some (x, ρ2) => .ok x ρ2
  | none => .no
/-- xs.extend(ys) -/
def meExt (i : Nat) (ma : M Op) : M Op := fun ρ => if (lsS ρ[i]?).isSome = true then (ma ρ).bind fun x ρ1 => optE ((lsS ρ1[i]?).bind fun ds => (rdL ρ1 x).bind fun es => if ds.length + es.length ≤ sizeLine then (putA [i] [.list (ds ++ es)] ρ1).map fun ρ2 => (Op.val .none, ρ2) else none) else .no
where rdL (ρ1 : Ev) : Op → Option (List D)
  | .fr (.list es) => some es
  | .sl j => lsS ρ1[j]?
  | _ => none
/-- xs.pop() -/
def mePop (i : Nat) : M Op := fun ρ => optE ((lsS ρ[i]?).bind fun ds => (ds[ds.length - 1]?).bind fun d => (putA [i] [.list ds.dropLast] ρ).map fun ρ2 => (Op.val d, ρ2))
def okIx (k : Int) : Bool := decide (-(2 ^ 63) ≤ k) && decide (k < 2 ^ 63)
/-- xs.pop(e) -/
def mePopAt (i : Nat) (ma : M Op) : M Op := fun ρ => if (lsS ρ[i]?).isSome = true then (ma ρ).bind fun x ρ1 => optE ((rd ρ1 x).bind fun y => (isI y).bind fun k => (lsS ρ1[i]?).bind fun ds => if okIx k = true then (seqIndex? k ds.length).bind fun j => (ds[j]?).bind fun d => (putA [i] [.list (ds.eraseIdx j)] ρ1).map fun ρ2 => (Op.val d, ρ2) else none) else .no
section
variable {K : PySem.W.Frag} {F : Fc} {T T1 : Fo} {H H1 : Hp} {σ : St} {ρ ρ1 : Ev} {Q : VK}
theorem ls_ty (R : Rel K F T H σ ρ) {i : Nat} (h : (lsS ρ[i]?).isSome = true) : ∃ v, σ[i]? = some (some v) ∧ tyV K "list" v H := by
  cases q : lsS ρ[i]? with
  | none => rw [q] at h; cases h
  | some ds =>
    obtain ⟨a, xs, q1, q2, q3⟩ := R.lsGet q
    exact ⟨_, q1, .inl ⟨rfl, xs, SqL.of q2⟩⟩
theorem ls_fin (x1 : Ext σ ρ H σ ρ1 H1) (R1 : Rel K F T1 H1 σ ρ1) (t : ∀ b, T b → T1 b) {i : Nat} {ds es : List D} (h : lsS ρ1[i]? = some ds) {a : Addr} {xs ys : List V} (hv : σ[i]? = some (some (V.ref a))) (ha : H1 a = some (.lst xs)) (hy : RDs K (Fb F T1 σ ρ1) H1 ys es) {d : D} {v : V} (hd : RD K (Fb F T1 σ ρ1) H1 v d)
    (g : GE K F T H σ ρ Q (optE ((putA [i] [.list es] ρ1).map fun ρ2 => (Op.val d, ρ2)))) : Q v (upd H1 a (.lst ys)) := by
  obtain ⟨ρ3, e, r1, r2, r3, l⟩ := R1.lsPut h hv ha hy
  rw [e] at g
  have tt : ∀ b, TTf T v (.val d) b → T1 b := fun b z => z.elim (t b) fun ⟨_, e, _⟩ => (nomatch e)
  refine g v _ ⟨r1.less tt, x1.trans r2, ?_, fun _ _ e => (nomatch e)⟩
  exact RD.mono (Le.less fun b z => z.elim .inl fun z => z.elim (fun z => .inr (.inl (tt b z))) fun z => .inr (.inr z)) _ _ (RD.mono l _ _ hd)
end
section
variable {X : Cx} {F : Fc} {e : Expr} {me : M Op} {i : Nat} {x : Str} {p ap pos : Pos}
theorem qe_app (hN : X.N[i]? = some x) (hv : Vis X.env.scope x) (he : QE X F e me)
    (hd : (x == ("__debug__" : Str)) = false := by decide) (hcd : (x == ("__classdict__" : Str)) = false := by decide)
    (hbase : attributeBase (.Name x p) "append" X.env (eval (.Name x p) X.env) = eval (.Name x p) X.env := by rfl)
    (hfew : ((backTo pos (starEach [e] X.env)).all (fun x => !x.1) && (backToKw pos (keywordEach [] X.env)).all (fun x => x.1.isSome) && decide ([e].length + ([] : List Keyword).length + (if ([] : List Keyword).isEmpty then 0 else 1) < 30)) = true := by rfl)
    (hline : (ap.endLine == pos.line) = true := by rfl) (hs : starEach [e] X.env = (false, eval e X.env) :: starEach [] X.env := by rfl) (hplain : (backTo pos (starEach [] X.env)).any (·.1) = false := by rfl) :
    QE X F (.Call (.Attribute (.Name x p) "append" ap) [e] [] pos) (meApp i (mK me)) := by
  refine (pe_bm PySem.F.plainAttrs_list PySem.F.slot_list_append PySem.F.type_list_append mt_append (pe_var hN hv hd hcd) (pa_cons (liftK_ he) pa_nil hs) hbase hfew hline hs hplain).imp fun σ H Q ⟨T, ρ, R, h⟩ => ?_
  unfold meApp at h
  by_cases c : (lsS ρ[i]?).isSome = true
  · rw [if_pos c] at h
    obtain ⟨v0, hv0, ty0⟩ := ls_ty R c
    refine ⟨v0, hv0, ty0, T, ρ, R, ?_⟩
    cases e1 : mK me ρ with
    | no => rw [e1] at h; exact h.elim
    | er z ρ' => rw [e1] at h; exact h
    | ok d ρ1 =>
      rw [e1, Rs.bind_ok] at h
      intro v H1 R1 x1 q1
      cases e2 : lsS ρ1[i]? with
      | none => rw [e2] at h; exact h.elim
      | some ds =>
        rw [e2] at h
        have h : GE X.K F T H σ ρ Q (meApp.opt2 ρ1 (if ds.length < sizeLine then (putA [i] [.list (ds ++ [d])] ρ1).map fun ρ2 => (Op.val .none, ρ2) else none)) := h
        by_cases c2 : ds.length < sizeLine
        · rw [if_pos c2] at h
          obtain ⟨a, xs, g1, g2, g3⟩ := R1.lsGet e2
          rw [hv0] at g1; cases g1
          refine ⟨a, xs, v, rfl, rfl, g2, by rw [g3.length]; exact c2, ?_⟩
          refine ls_fin x1 R1 (fun _ z => z) e2 hv0 g2 (g3.append (.cons q1 .nil)) (d := .none) .non ?_
          cases q : putA [i] [.list (ds ++ [d])] ρ1 with
          | none => rw [q] at h; exact h
          | some ρ2 => rw [q] at h; exact h
        · rw [if_neg c2] at h; exact h.elim
  · rw [if_neg c] at h; exact h.elim
theorem qe_ext (hN : X.N[i]? = some x) (hv : Vis X.env.scope x) (he : QE X F e me)
    (hd : (x == ("__debug__" : Str)) = false := by decide) (hcd : (x == ("__classdict__" : Str)) = false := by decide)
    (hbase : attributeBase (.Name x p) "extend" X.env (eval (.Name x p) X.env) = eval (.Name x p) X.env := by rfl)
    (hfew : ((backTo pos (starEach [e] X.env)).all (fun x => !x.1) && (backToKw pos (keywordEach [] X.env)).all (fun x => x.1.isSome) && decide ([e].length + ([] : List Keyword).length + (if ([] : List Keyword).isEmpty then 0 else 1) < 30)) = true := by rfl)
    (hline : (ap.endLine == pos.line) = true := by rfl) (hs : starEach [e] X.env = (false, eval e X.env) :: starEach [] X.env := by rfl) (hplain : (backTo pos (starEach [] X.env)).any (·.1) = false := by rfl) :
    QE X F (.Call (.Attribute (.Name x p) "extend" ap) [e] [] pos) (meExt i me) := by
  refine (pe_bm PySem.F.plainAttrs_list PySem.F.slot_list_extend PySem.F.type_list_extend mt_extend (pe_var hN hv hd hcd) (pa_cons he pa_nil hs) hbase hfew hline hs hplain).imp fun σ H Q ⟨T, ρ, R, h⟩ => ?_
  unfold meExt at h
  by_cases c : (lsS ρ[i]?).isSome = true
  · rw [if_pos c] at h
    obtain ⟨v0, hv0, ty0⟩ := ls_ty R c
    refine ⟨v0, hv0, ty0, T, ρ, R, ?_⟩
    cases e1 : me ρ with
    | no => rw [e1] at h; exact h.elim
    | er z ρ' => rw [e1] at h; exact h
    | ok y ρ1 =>
      rw [e1, Rs.bind_ok] at h
      intro v H1 p1
      cases e2 : lsS ρ1[i]? with
      | none => rw [e2] at h; exact h.elim
      | some ds =>
        rw [e2] at h
        have h : GE X.K F T H σ ρ Q (optE ((meExt.rdL ρ1 y).bind fun es => if ds.length + es.length ≤ sizeLine then (putA [i] [.list (ds ++ es)] ρ1).map fun ρ2 => (Op.val .none, ρ2) else none)) := h
        cases e3 : meExt.rdL ρ1 y with
        | none => rw [e3] at h; exact h.elim
        | some es =>
          rw [e3] at h
          have h : GE X.K F T H σ ρ Q (optE (if ds.length + es.length ≤ sizeLine then (putA [i] [.list (ds ++ es)] ρ1).map fun ρ2 => (Op.val .none, ρ2) else none)) := h
          by_cases c2 : ds.length + es.length ≤ sizeLine
          · rw [if_pos c2] at h
            obtain ⟨a, xs, g1, g2, g3⟩ := p1.rel.lsGet e2
            rw [hv0] at g1; cases g1
            have : ∃ b zs, v = .ref b ∧ H1 b = some (.lst zs) ∧ RDs X.K (Fb F (TTf T v y) σ ρ1) H1 zs es := by
              cases y with
              | val d => cases e3
              | fr d =>
                cases d <;> try cases e3
                obtain ⟨b, k1, _, ⟨zs, k3, k4⟩, _⟩ := p1.val
                exact ⟨b, zs, k1, k3, k4⟩
              | sl j =>
                obtain ⟨b, zs, k1, k2, k3⟩ := p1.rel.lsGet (show lsS ρ1[j]? = some es from e3)
                have hv1 : σ[j]? = some (some v) := p1.val
                rw [hv1] at k1; cases k1
                exact ⟨b, zs, rfl, k2, k3⟩
            obtain ⟨b, zs, k1, k2, k3⟩ := this
            refine ⟨a, b, xs, zs, rfl, by rw [k1], g2, k2, by rw [g3.length, k3.length]; exact c2, ?_⟩
            exact ls_fin p1.ext p1.rel (fun _ z => .inl z) e2 hv0 g2 (g3.append k3) (d := .none) .non h
          · rw [if_neg c2] at h; exact h.elim
  · rw [if_neg c] at h; exact h.elim
theorem qe_popAt (hN : X.N[i]? = some x) (hv : Vis X.env.scope x) (he : QE X F e me)
    (hd : (x == ("__debug__" : Str)) = false := by decide) (hcd : (x == ("__classdict__" : Str)) = false := by decide)
    (hbase : attributeBase (.Name x p) "pop" X.env (eval (.Name x p) X.env) = eval (.Name x p) X.env := by rfl)
    (hfew : ((backTo pos (starEach [e] X.env)).all (fun x => !x.1) && (backToKw pos (keywordEach [] X.env)).all (fun x => x.1.isSome) && decide ([e].length + ([] : List Keyword).length + (if ([] : List Keyword).isEmpty then 0 else 1) < 30)) = true := by rfl)
    (hline : (ap.endLine == pos.line) = true := by rfl) (hs : starEach [e] X.env = (false, eval e X.env) :: starEach [] X.env := by rfl) (hplain : (backTo pos (starEach [] X.env)).any (·.1) = false := by rfl) :
    QE X F (.Call (.Attribute (.Name x p) "pop" ap) [e] [] pos) (mePopAt i me) := by
  refine (pe_bm PySem.F.plainAttrs_list PySem.F.slot_list_pop PySem.F.type_list_pop mt_popAt (pe_var hN hv hd hcd) (pa_cons he pa_nil hs) hbase hfew hline hs hplain).imp fun σ H Q ⟨T, ρ, R, h⟩ => ?_
  unfold mePopAt at h
  by_cases c : (lsS ρ[i]?).isSome = true
  · rw [if_pos c] at h
    obtain ⟨v0, hv0, ty0⟩ := ls_ty R c
    refine ⟨v0, hv0, ty0, T, ρ, R, ?_⟩
    cases e1 : me ρ with
    | no => rw [e1] at h; exact h.elim
    | er z ρ' => rw [e1] at h; exact h
    | ok y ρ1 =>
      rw [e1, Rs.bind_ok] at h
      intro v H1 p1
      cases e3 : rd ρ1 y with
      | none => rw [e3] at h; exact h.elim
      | some d =>
        rw [e3] at h
        cases d with
        | int k =>
          have h : GE X.K F T H σ ρ Q (optE ((lsS ρ1[i]?).bind fun ds => if okIx k = true then (seqIndex? k ds.length).bind fun j => (ds[j]?).bind fun d => (putA [i] [.list (ds.eraseIdx j)] ρ1).map fun ρ2 => (Op.val d, ρ2) else none)) := h
          cases e2 : lsS ρ1[i]? with
          | none => rw [e2] at h; exact h.elim
          | some ds =>
            rw [e2] at h
            have h : GE X.K F T H σ ρ Q (optE (if okIx k = true then (seqIndex? k ds.length).bind fun j => (ds[j]?).bind fun d => (putA [i] [.list (ds.eraseIdx j)] ρ1).map fun ρ2 => (Op.val d, ρ2) else none)) := h
            by_cases c2 : okIx k = true
            · rw [if_pos c2] at h
              cases e4 : seqIndex? k ds.length with
              | none => rw [e4] at h; exact h.elim
              | some j =>
                rw [e4] at h
                have h : GE X.K F T H σ ρ Q (optE ((ds[j]?).bind fun d => (putA [i] [.list (ds.eraseIdx j)] ρ1).map fun ρ2 => (Op.val d, ρ2))) := h
                cases e5 : ds[j]? with
                | none => rw [e5] at h; exact h.elim
                | some d =>
                  rw [e5] at h
                  obtain ⟨a, xs, g1, g2, g3⟩ := p1.rel.lsGet e2
                  rw [hv0] at g1; cases g1
                  obtain ⟨u, u1, u2⟩ := g3.get e5
                  simp only [okIx, Bool.and_eq_true, decide_eq_true_eq] at c2
                  refine ⟨a, xs, k, j, u, rfl, by rw [(p1.val.rb p1.rel e3).int], g2, c2.1, c2.2, by rw [g3.length]; exact e4, u1, ?_⟩
                  exact ls_fin p1.ext p1.rel (fun _ z => .inl z) e2 hv0 g2 (g3.eraseIdx j) u2 h
            · rw [if_neg c2] at h; exact h.elim
        | _ => exact h.elim
  · rw [if_neg c] at h; exact h.elim
theorem qe_pop (hN : X.N[i]? = some x) (hv : Vis X.env.scope x)
    (hd : (x == ("__debug__" : Str)) = false := by decide) (hcd : (x == ("__classdict__" : Str)) = false := by decide)
    (hbase : attributeBase (.Name x p) "pop" X.env (eval (.Name x p) X.env) = eval (.Name x p) X.env := by rfl) (hline : (ap.endLine == pos.line) = true := by rfl) :
    QE X F (.Call (.Attribute (.Name x p) "pop" ap) [] [] pos) (mePop i) := by
  refine (pe_bm0 PySem.F.plainAttrs_list PySem.F.slot_list_pop PySem.F.type_list_pop mt_pop (pe_var hN hv hd hcd) hbase hline).imp fun σ H Q ⟨T, ρ, R, h⟩ => ?_
  unfold mePop at h
  cases e2 : lsS ρ[i]? with
  | none => rw [e2] at h; exact h.elim
  | some ds =>
    rw [e2] at h
    obtain ⟨v0, hv0, ty0⟩ := ls_ty R (i := i) (by rw [e2]; rfl)
    refine ⟨v0, hv0, ty0, ?_⟩
    have h : GE X.K F T H σ ρ Q (optE ((ds[ds.length - 1]?).bind fun d => (putA [i] [.list ds.dropLast] ρ).map fun ρ2 => (Op.val d, ρ2))) := h
    cases e5 : ds[ds.length - 1]? with
    | none => rw [e5] at h; exact h.elim
    | some d =>
      rw [e5] at h
      obtain ⟨a, xs, g1, g2, g3⟩ := R.lsGet e2
      rw [hv0] at g1; cases g1
      obtain ⟨u, u1, u2⟩ := g3.get e5
      refine ⟨a, xs, u, rfl, rfl, g2, by rw [g3.length]; exact u1, ?_⟩
      exact ls_fin (Ext.refl ..) R (fun _ z => z) e2 hv0 g2 g3.dropLast u2 h
end
end Vx
set_option maxHeartbeats 2000000
namespace Vx
open PySem PySem.Spec L2
def hasS : Option Sl → Bool
  | some (.ow _) => true
  | some (.le _) => true
  | _ => false
def sSetIx (i : Nat) (mk : M D) (mi : M Op) : M Fl := fun ρ => (mk ρ).bind fun d ρ1 => if (lsS ρ1[i]?).isSome = true then (mi ρ1).bind fun y ρ2 => oNx ((rd ρ2 y).bind fun yd => (isI yd).bind fun k => (lsS ρ2[i]?).bind fun ds => (ixN ds.length k).bind fun j => putA [i] [.list (ds.set j d)] ρ2) else .no
section
variable {X : Cx} {F : Fc} {e ie : Expr} {me mi : M Op} {i : Nat} {x : Str} {p pos pos' : Pos}
theorem qs_setIx (hN : X.N[i]? = some x) (hv : Vis X.env.scope x) (he : QE X F e me) (hi : QE X F ie mi)
    (hd : (x == ("__debug__" : Str)) = false := by decide) (hcd : (x == ("__classdict__" : Str)) = false := by decide)
    (hs : swapsWithSole [.Subscript (.Name x p) ie pos'] e pos.line X.env = pure false := by rfl) (hw : swappedStores [.Subscript (.Name x p) ie pos'] e X.env = pure none := by rfl)
    (h1 : (assignEach [.Subscript (.Name x p) ie pos'] X.env).map (·.2) = [assign (.Subscript (.Name x p) ie pos') X.env] := by rfl)
    (hA : ∀ v, assign (.Subscript (.Name x p) ie pos') X.env v = (do
      let ov ← holding [v] (eval (.Name x p) X.env)
      let iv ← holding [v, ov] (eval ie X.env)
      standAt pos'
      holding [v, ov, iv] (setItem ov iv v)
      release [v, ov, iv] []) := by intro _; rfl) : QS X F (.Assign [.Subscript (.Name x p) ie pos'] e pos) (sSetIx i (mK me) mi) := by
  refine (ps_asg (liftK_ he) (pg_sub (pe_var (i := i) hN hv hd hcd) hi set_list hA) hs hw h1).imp fun D σ H ⟨ρ, R, h⟩ => ⟨noT, ρ, R, ?_⟩
  unfold sSetIx at h
  cases e1 : mK me ρ with
  | no => rw [e1] at h; exact h.elim
  | er z ρ' => rw [e1] at h; exact ErS.toP h
  | ok d ρ1 =>
    rw [e1, Rs.bind_ok] at h
    intro v H1 R1 x1 r1
    by_cases c : (lsS ρ1[i]?).isSome = true
    · rw [if_pos c] at h
      obtain ⟨v0, hv0, ty0⟩ := ls_ty R1 c
      refine ⟨v0, hv0, noT, ρ1, R1, ?_⟩
      cases e2 : mi ρ1 with
      | no => rw [e2] at h; exact h.elim
      | er z ρ' => rw [e2] at h; exact ErP.back (ErS.toP (show ErS X.K F H σ ρ z ρ' from h)) x1 fun _ z => z
      | ok y ρ2 =>
        rw [e2, Rs.bind_ok] at h
        intro u H2 p2
        cases e3 : rd ρ2 y with
        | none => rw [e3] at h; exact h.elim
        | some yd =>
          rw [e3] at h
          cases yd with
          | int k =>
            have h : GS X.K F H σ ρ D (oNx ((lsS ρ2[i]?).bind fun ds => (ixN ds.length k).bind fun j => putA [i] [.list (ds.set j d)] ρ2)) := h
            cases e4 : lsS ρ2[i]? with
            | none => rw [e4] at h; exact h.elim
            | some ds =>
              rw [e4] at h
              have h : GS X.K F H σ ρ D (oNx ((ixN ds.length k).bind fun j => putA [i] [.list (ds.set j d)] ρ2)) := h
              cases e5 : ixN ds.length k with
              | none => rw [e5] at h; exact h.elim
              | some j =>
                rw [e5] at h
                have h : GS X.K F H σ ρ D (oNx (putA [i] [.list (ds.set j d)] ρ2)) := h
                obtain ⟨a, xs, g1, g2, g3⟩ := p2.rel.lsGet e4
                rw [hv0] at g1; cases g1
                refine ⟨a, xs, k, j, rfl, (p2.val.rb p2.rel e3).int, g2, by rw [g3.length]; exact e5, ?_⟩
                have rv : RD X.K (Fb F (TTf noT u y) σ ρ2) H2 v d := RD.mono (p2.ext.fb p2.tt) _ _ r1
                obtain ⟨ρ3, q1, q2, q3, q4, q5⟩ := p2.rel.lsPut e4 hv0 g2 (g3.set rv j)
                rw [q1] at h
                exact h _ _ (q2.less fun _ z => z.elim) ((x1.trans p2.ext).trans q3)
          | _ => exact h.elim
    · rw [if_neg c] at h; exact h.elim
end
def noSl : Op → Bool
  | .sl _ => false
  | _ => true
def sPar (i j : Nat) (ma mb : M Op) : M Fl := fun ρ => (ma ρ).bind fun x ρ1 => (mb ρ1).bind fun y ρ2 => if (noSl x && noSl y) = true then oNx ((stO i ρ2 x).bind fun ρ3 => stO j ρ3 y) else .no
section
variable {K : PySem.W.Frag} {F : Fc} {T T' : Fo} {H H' : Hp} {σ : St} {ρ ρ' : Ev}
theorem Rel.stOp (R : Rel K F T' H σ ρ) {x : Op} {v : V} {i : Nat} {ρ2 : Ev} (h : VOk K F T' H σ ρ v x) (hx : noSl x = true) (ht : ∀ b, T' b ↔ T b ∨ ∃ d, x = .fr d ∧ v = .ref b) (nT : ∀ d a, x = .fr d → v = .ref a → ¬ T a) (e : stO i ρ x = some ρ2) :
    Rel K F T H (σ.set i (some v)) ρ2 ∧ (∀ b, OS (σ.set i (some v)) ρ2 b → OS σ ρ b ∨ ∃ d, x = .fr d ∧ v = .ref b) ∧ ∀ b, Fb F T (σ.set i (some v)) ρ2 b → Fb F T' σ ρ b := by
  have fb : (∀ b, OS (σ.set i (some v)) ρ2 b → OS σ ρ b ∨ ∃ d, x = .fr d ∧ v = .ref b) → ∀ b, Fb F T (σ.set i (some v)) ρ2 b → Fb F T' σ ρ b := fun os b z => by
    rcases z with z | z | z
    · exact .inl z
    · exact .inr (.inl ((ht b).mpr (.inl z)))
    · rcases os b z with z | z
      · exact .inr (.inr z)
      · exact .inr (.inl ((ht b).mpr (.inr z)))
  cases x with
  | sl j => cases hx
  | val d =>
    have e : (if free ρ[i]? then some (ρ.set i (.cl d)) else none) = some ρ2 := e
    by_cases c : free ρ[i]? = true
    · rw [if_pos c] at e; cases e
      have R1 : Rel K F T H σ ρ := R.less fun b z => (ht b).mpr (.inl z)
      obtain ⟨r1, r2⟩ := R1.setCl c (RD.mono (Le.less fun b z => z.elim .inl fun z => z.elim (fun z => .inr (.inl ((ht b).mpr (.inl z)))) fun z => .inr (.inr z)) _ _ h)
      have os : ∀ b, OS (σ.set i (some v)) (ρ.set i (.cl d)) b → OS σ ρ b ∨ ∃ d', Op.val d = .fr d' ∧ v = .ref b := fun b z => .inl (os_set (s := .cl d) rfl (free_len c) z).1
      exact ⟨r1, os, fb os⟩
    · rw [if_neg c] at e; cases e
  | fr d =>
    have e : (if free ρ[i]? then some (ρ.set i (.ow d)) else none) = some ρ2 := e
    by_cases c : free ρ[i]? = true
    · rw [if_pos c] at e; cases e
      obtain ⟨a, ev, ta, q, nb, h0⟩ := h
      have ht' : ∀ b, T' b ↔ T b ∨ b = a := fun b => ⟨fun z => ((ht b).mp z).imp id fun ⟨_, _, z⟩ => by rw [ev] at z; cases z; rfl, fun z => (ht b).mpr (z.imp id fun z => ⟨d, rfl, by rw [z]; exact ev⟩)⟩
      obtain ⟨r1, r2⟩ := R.setOw c ev ht' (nT d a rfl ev) q nb h0
      have os : ∀ b, OS (σ.set i (some v)) (ρ.set i (.ow d)) b → OS σ ρ b ∨ ∃ d', Op.fr d = .fr d' ∧ v = .ref b := fun b z => (r2 b z).imp id fun z => ⟨d, rfl, by rw [z]; exact ev⟩
      exact ⟨r1, os, fb os⟩
    · rw [if_neg c] at e; cases e
theorem VOk.stOp {x y : Op} {v w : V} {i : Nat} {ρ2 : Ev} (h : VOk K F T' H σ ρ w y) (hy : noSl y = true) (fb : ∀ b, Fb F T (σ.set i (some v)) ρ2 b → Fb F T' σ ρ b) (tw : ∀ d a, y = .fr d → w = .ref a → T a) : VOk K F T H (σ.set i (some v)) ρ2 w y := by
  cases y with
  | sl j => cases hy
  | val d => exact RD.mono (Le.less fb) _ _ h
  | fr d =>
    obtain ⟨a, ev, ta, q, nb, h0⟩ := h
    exact ⟨a, ev, tw d a rfl ev, q.mono (Le.less fb) fun _ z => z, nb, h0⟩
end
section
variable {X : Cx} {F : Fc} {a b : Expr} {ma mb : M Op} {i j : Nat} {x y : Str} {px py pt pos : Pos} {kt : Nat} {k2 : Nat} {pt2 : Pos}
theorem qs_par (hc : X.calm = true) (hN : X.N.Nodup) (hi : X.N[i]? = some x) (hj : X.N[j]? = some y) (hij : i ≠ j) (hx : X.env.scope.names.lookup x = some .local) (hy : X.env.scope.names.lookup y = some .local) (ha : QE X F a ma) (hb : QE X F b mb)
    (hw : swappedStores [.Tuple [.Name x px, .Name y py] kt pt] (.Tuple [a, b] k2 pt2) X.env = pure (some [x, y]))
    (hs : swapsWithSole [.Tuple [.Name x px, .Name y py] kt pt] (.Tuple [a, b] k2 pt2) pos.line X.env = pure false := by rfl)
    (s1 : starEach [a, b] X.env = (false, eval a X.env) :: starEach [b] X.env := by rfl) (s2 : starEach [b] X.env = (false, eval b X.env) :: starEach [] X.env := by rfl) :
    QS X F (.Assign [.Tuple [.Name x px, .Name y py] kt pt] (.Tuple [a, b] k2 pt2) pos) (sPar i j ma mb) := by
  refine (ps_par hc hN hi hj hij hx hy (pa_cons ha (pa_cons hb pa_nil s2) s1) hw hs).imp fun D σ H ⟨ρ, R, h⟩ => ⟨noT, ρ, R, ?_⟩
  unfold sPar at h
  cases e1 : ma ρ with
  | no => rw [e1] at h; exact h.elim
  | er z ρ' => rw [e1] at h; exact ErS.toP h
  | ok x1 ρ1 =>
    rw [e1, Rs.bind_ok] at h
    intro v H1 p1
    refine ⟨_, ρ1, p1.rel, ?_⟩
    cases e2 : mb ρ1 with
    | no => rw [e2] at h; exact h.elim
    | er z ρ' => rw [e2] at h; exact ErP.back (ErS.toP (show ErS X.K F H σ ρ z ρ' from h)) p1.ext fun _ z => z.elim
    | ok y1 ρ2 =>
      rw [e2, Rs.bind_ok] at h
      intro w H2 p2
      by_cases c : (noSl x1 && noSl y1) = true
      · rw [if_pos c] at h
        obtain ⟨c1, c2⟩ := Bool.and_eq_true_iff.mp c
        refine ⟨v, w, rfl, ?_⟩
        cases e3 : stO i ρ2 x1 with
        | none => rw [e3] at h; exact h.elim
        | some ρ3 =>
          rw [e3] at h
          have h : GS X.K F H σ ρ D (oNx (stO j ρ3 y1)) := h
          cases e4 : stO j ρ3 y1 with
          | none => rw [e4] at h; exact h.elim
          | some ρ4 =>
            rw [e4] at h
            have vx : VOk X.K F (TTf (TTf noT v x1) w y1) H2 σ ρ2 v x1 := p1.val.ext p1.rel p2.ext (fun _ z => .inl z) p2.tt
            have exd : ∀ d a, x1 = .fr d → v = .ref a → H1 a ≠ none := fun d a q1 q2 => p1.rel.tdom a (.inr (.inr ⟨d, q1, q2⟩))
            obtain ⟨r1, o1, f1⟩ := p2.rel.stOp (T := TTf noT w y1) (i := i) vx c1 (fun b => ⟨fun z => z.elim (fun z => z.elim (fun z => z.elim) .inr) fun z => .inl (.inr z), fun z => z.elim (fun z => z.elim (fun z => z.elim) .inr) fun z => .inl (.inr z)⟩)
              (fun d a q1 q2 z => z.elim (fun z => z.elim) fun ⟨d2, q3, q4⟩ => exd d a q1 q2 (p2.new d2 a q3 q4)) e3
            have vy : VOk X.K F (TTf noT w y1) H2 (σ.set i (some v)) ρ3 w y1 := p2.val.stOp (x := x1) c2 f1 fun d a q1 q2 => .inr ⟨d, q1, q2⟩
            obtain ⟨r2, o2, f2⟩ := r1.stOp (T := noT) (i := j) vy c2 (fun b => Iff.rfl) (fun _ _ _ _ z => z) e4
            refine h _ H2 r2 ⟨(p1.ext.trans p2.ext).kept, fun b z => ?_, (p1.ext.trans p2.ext).dom⟩
            have nH : ∀ b, H1 b = none → H b = none := fun b z => by
              cases q : H b with
              | none => rfl
              | some o => exact absurd z (p1.ext.dom b (by rw [q]; exact fun z => nomatch z))
            rcases o2 b z with z | ⟨d, q1, q2⟩
            · rcases o1 b z with z | ⟨d, q1, q2⟩
              · exact (p1.ext.trans p2.ext).os b z
              · exact .inr (p1.new d b q1 q2)
            · exact .inr (nH b (p2.new d b q1 q2))
      · rw [if_neg c] at h; exact h.elim
end
def m2F (f : D → D → Option Op) (ma mb : M Op) : M Op := fun ρ => (ma ρ).bind fun x ρ1 => (mb ρ1).bind fun y ρ2 => opt ρ2 (frO x |>.bind fun a => (rd ρ2 y).bind fun b => f a b)
where frO : Op → Option D
  | .fr d => some d
  | _ => none
def P2F (K : PySem.W.Frag) (r : R2) (f : D → D → Option Op) : Prop := ∀ (A : Fo) (H : Hp) x y a b op (Q : VK), (∀ b, A b → H b ≠ none) → OB K A H x a → RB K A H y b → f a b = some op → (∀ v H', PR K A H H' v op → Q v H') → r (.ref x) y H Q
theorem lift2F {K : PySem.W.Frag} {F : Fc} {ma mb : M Op} {σ : St} {H : Hp} {Q : VK} {r : R2} {f : D → D → Option Op} (hf : P2F K r f) (h : liftE K F (m2F f ma mb) σ H Q) : tOp r (liftE K F ma) (liftE K F mb) σ H Q := by
  obtain ⟨T, ρ, R, h⟩ := h
  refine ⟨T, ρ, R, ?_⟩
  unfold m2F at h
  cases e : ma ρ with
  | no => rw [e] at h; exact h.elim
  | er x ρ' => rw [e] at h; exact h
  | ok x ρ1 =>
    rw [e, Rs.bind_ok] at h
    intro v H1 p
    refine ⟨TTf T v x, ρ1, p.rel, ?_⟩
    cases eb : mb ρ1 with
    | no => rw [eb] at h; exact h.elim
    | er z ρ' =>
      rw [eb] at h
      exact ErP.back (show ErP K F T H σ ρ z ρ' from h) p.ext fun _ z => .inl z
    | ok y ρ2 =>
      rw [eb, Rs.bind_ok] at h
      intro u H2 p2
      have vx : VOk K F (TTf (TTf T v x) u y) H2 σ ρ2 v x := p.val.ext p.rel p2.ext (fun _ z => .inl z) p2.tt
      cases x with
      | fr a =>
        have h : GE K F T H σ ρ Q (opt ρ2 ((rd ρ2 y).bind fun b => f a b)) := h
        cases e2 : rd ρ2 y with
        | none => rw [e2] at h; exact h.elim
        | some b =>
          rw [e2] at h
          have h : GE K F T H σ ρ Q (opt ρ2 (f a b)) := h
          cases e3 : f a b with
          | none => rw [e3] at h; exact h.elim
          | some op =>
            rw [e3] at h
            obtain ⟨x0, ev, _, ob, _⟩ := vx
            subst ev
            exact hf _ H2 x0 u a b op Q (fun _ z => p2.rel.fbd z) ob (p2.val.rb p2.rel e2) e3 fun v' H' q => h v' H' (fin_ p2.rel (p.ext.trans p2.ext) (fun _ z => .inl (.inl z)) q)
      | _ => exact h.elim
def fRep : D → D → Option Op
  | .list ds, .int k => if (okIx k && decide (ds.length * k.toNat ≤ sizeLine)) = true then some (.fr (.list (List.replicate k.toNat ds).flatten)) else none
  | _, _ => none
theorem p_rep {K : PySem.W.Frag} : P2F K rRep fRep := by
  intro A H x y a b op Q hA ha hb e q
  cases a <;> try cases e
  cases b <;> try cases e
  rename_i ds k
  have e : (if (okIx k && decide (ds.length * k.toNat ≤ sizeLine)) = true then some (Op.fr (.list (List.replicate k.toNat ds).flatten)) else none) = some op := e
  by_cases c : (okIx k && decide (ds.length * k.toNat ≤ sizeLine)) = true
  · rw [if_pos c] at e; cases e
    simp only [okIx, Bool.and_eq_true, decide_eq_true_eq] at c
    obtain ⟨xs, h1, h2⟩ := ha
    exact ⟨x, k, xs, rfl, hb.int, h1, c.1.1, c.1.2, by rw [h2.length]; exact c.2, fun p hp => q _ _ (pr_lst hp (h2.rep _))⟩
  · rw [if_neg c] at e; cases e
theorem qe_rep {X : Cx} {F : Fc} {a b : Expr} {ma mb : M Op} {pos : Pos} (ha : QE X F a ma) (hb : QE X F b mb) : QE X F (.BinOp a .Mult b pos) (m2F fRep ma mb) := (pe_op op_rep ha hb).imp fun _ _ _ h => lift2F p_rep h
def mRg (ma mb : M Op) : M Op := fun ρ => (ma ρ).bind fun x ρ1 => (mb ρ1).bind fun y ρ2 => opt ρ2 ((rd ρ2 x).bind fun a => (rd ρ2 y).bind fun b => (isI a).bind fun i => (isI b).bind fun j => if (okRg i && okRg j) = true then some (Op.fr (.list (rngD i (j - i).toNat))) else none)
where okRg (i : Int) : Bool := decide (0 ≤ i) && decide (i ≤ 16777216)
theorem rgV_rngD {K : PySem.W.Frag} {A : Fo} {H : Hp} (a b : Int) : RDs K A H (rgV a b) (rngD a (b - a).toNat) := by
  unfold rgV rngD
  have : ∀ l : List Nat, RDs K A H (l.map fun i => V.int (a + (i : Nat))) (l.map fun (i : Nat) => PyData.int (a + i)) := fun l => by
    induction l with
    | nil => exact .nil
    | cons n l ih => exact .cons (.int _) ih
  exact this _
section
variable {X : Cx} {F : Fc} {a b : Expr} {ma mb : M Op} {p p2 pos pos2 : Pos}
theorem qe_listRg (hc : X.calm = true) (hg : Gl X "list") (hm : X.mg "list" = none) (hg2 : Gl X "range") (hm2 : X.mg "range" = none) (ha : QE X F a ma) (hb : QE X F b mb)
    (na : starEach [.Call (.Name "range" p2) [a, b] [] pos2] X.env = (false, eval (.Call (.Name "range" p2) [a, b] [] pos2) X.env) :: starEach [] X.env := by rfl)
    (n1 : starEach [a, b] X.env = (false, eval a X.env) :: starEach [b] X.env := by rfl) (n2 : starEach [b] X.env = (false, eval b X.env) :: starEach [] X.env := by rfl) (hp : (backTo pos2 (starEach [b] X.env)).any (·.1) = false := by rfl) :
    QE X F (.Call (.Name "list" p) [.Call (.Name "range" p2) [a, b] [] pos2] [] pos) (mRg ma mb) := by
  refine (pe_listRg hc hg hm (prg_2 hg2 hm2 ha hb n1 n2 hp) na).imp fun σ H Q ⟨T, ρ, R, h⟩ => ⟨T, ρ, R, ?_⟩
  unfold mRg at h
  cases e : ma ρ with
  | no => rw [e] at h; exact h.elim
  | er x ρ' => rw [e] at h; exact h
  | ok x ρ1 =>
    rw [e, Rs.bind_ok] at h
    intro v H1 p
    refine ⟨TTf T v x, ρ1, p.rel, ?_⟩
    cases eb : mb ρ1 with
    | no => rw [eb] at h; exact h.elim
    | er z ρ' =>
      rw [eb] at h
      exact ErP.back (show ErP X.K F T H σ ρ z ρ' from h) p.ext fun _ z => .inl z
    | ok y ρ2 =>
      rw [eb, Rs.bind_ok] at h
      intro u H2 p2
      have vx : VOk X.K F (TTf (TTf T v x) u y) H2 σ ρ2 v x := p.val.ext p.rel p2.ext (fun _ z => .inl z) p2.tt
      cases e1 : rd ρ2 x with
      | none => rw [e1] at h; exact h.elim
      | some da =>
        rw [e1] at h
        cases e2 : rd ρ2 y with
        | none =>
          rw [e2] at h
          cases da <;> exact h.elim
        | some db =>
          rw [e2] at h
          cases da with
          | int i =>
            cases db with
            | int j =>
              have h : GE X.K F T H σ ρ Q (opt ρ2 (if (mRg.okRg i && mRg.okRg j) = true then some (Op.fr (.list (rngD i (j - i).toNat))) else none)) := h
              by_cases c : (mRg.okRg i && mRg.okRg j) = true
              · rw [if_pos c] at h
                simp only [mRg.okRg, Bool.and_eq_true, decide_eq_true_eq] at c
                refine ⟨i, j, (vx.rb p2.rel e1).int, (p2.val.rb p2.rel e2).int, RgOk.of_le c.1.1 c.2.2 c.1.2 c.2.1, fun q hq => ?_⟩
                exact h _ _ (fin_ p2.rel (p.ext.trans p2.ext) (fun _ z => .inl (.inl z)) (pr_lst hq (rgV_rngD i j)))
              · rw [if_neg c] at h; exact h.elim
            | _ => exact h.elim
          | _ => exact h.elim
end
end Vx
set_option maxHeartbeats 2000000
namespace Vx
open PySem PySem.Spec L2
def kG (kf : D → Option D) (d : D) : D := (kf d).getD .none
def mapO (kf : D → Option D) : List D → Option (List D)
  | [] => some []
  | d :: ds => (kf d).bind fun k => (mapO kf ds).bind fun ks => some (k :: ks)
def tup1 : D → Bool
  | .tuple (_ :: _) => true
  | _ => false
def noTN : D → Bool
  | .none => false
  | .tuple _ => false
  | _ => true
def okKs (kz : List D) : Bool := (kz.all fun d => kz.all fun e => PySem.W.alike d e) && (kz.all tup1 || kz.all noTN) && kz.all fun d => decide (d.depth ≤ 60)
/-- what sorted walks -/
def itK : D → Option (List D)
  | .list ds => some ds
  | .tuple ds => some ds
  | .dict ks => some (ks.map (·.1))
  | _ => none
def fSrtK (kf : D → Option D) (d : D) : Option Op := (itK d).bind fun ds => (mapO kf ds).bind fun kz => if (okKs kz && decide (ds.length ≤ sizeLine)) = true then some (.fr (.list (ds.mergeSort (PySem.W.dataLe false (kG kf))))) else none
theorem mapO_eq {kf : D → Option D} : ∀ {ds kz : List D}, mapO kf ds = some kz → kz = ds.map (kG kf) ∧ ∀ d ∈ ds, kf d = some (kG kf d)
  | [], kz, e => by cases e; exact ⟨rfl, fun d h => nomatch h⟩
  | d :: ds, kz, e => by
    have e : (kf d).bind (fun k => (mapO kf ds).bind fun ks => some (k :: ks)) = some kz := e
    cases e1 : kf d with
    | none => rw [e1] at e; cases e
    | some k =>
      rw [e1] at e
      have e : (mapO kf ds).bind (fun ks => some (k :: ks)) = some kz := e
      cases e2 : mapO kf ds with
      | none => rw [e2] at e; cases e
      | some ks =>
        rw [e2] at e; cases e
        obtain ⟨h1, h2⟩ := mapO_eq e2
        have hk : kG kf d = k := by unfold kG; rw [e1]; rfl
        refine ⟨by rw [List.map_cons, hk, h1], fun x hx => ?_⟩
        rcases List.mem_cons.mp hx with z | z
        · subst z; rw [hk]; exact e1
        · exact h2 x z
theorem okKs_ok {kz : List D} (h : okKs kz = true) : PySem.W.AllAlike kz ∧ PySem.W.Sortable kz ∧ ∀ d ∈ kz, d.depth ≤ 60 := by
  unfold okKs at h
  simp only [Bool.and_eq_true, Bool.or_eq_true, List.all_eq_true, decide_eq_true_eq] at h
  refine ⟨fun d hd e he => h.1.1 d hd e he, h.1.2.imp (fun h d hd => ?_) fun h d hd => ?_, h.2⟩
  · have := h d hd
    match d, this with
    | .tuple (x :: r), _ => exact ⟨x, r, rfl⟩
  · have := h d hd
    cases d <;> first
      | (cases this; done)
      | (constructor
         · intro z; cases z
         · intro _ z; cases z)
section
variable (X : Cx)
def KeyTurn (f : Value) (kf : D → Option D) (H1 : Hp) (s1 : Shared) : Prop := ∀ (A : Fo) (h : Heap) (tk : Nat) (x : V) (v : Value) (d kd : D), (∀ b o, s1.heap.get? b = some o → h.get? b = some o) → RD X.K A H1 x d → RelV x v → kf d = some kd →
  wpAny (model X.prog X.w) X.A.in1.in1 (call f [v]) (PySem.W.KeyPure kd { s1 with heap := h, toks := tk }) (fun _ _ => False) { s1 with heap := h, toks := tk }
def IsKeyV (f : Value) : Prop := ∀ x : Addr, Builtin.«list.sort» ⟨[.ref x], [(Str.ofString "key", f)]⟩ = PyProof.Rows.ksk_tree x f false
structure KeyE (tb : List (Addr × Str)) (ke : Expr) (kf : D → Option D) : Prop where
  run : ∀ (pins : List (Addr × Obj)) (s : Shared) (σ : St) (H : Hp) (Q : Value → Shared → Prop) (E : Value → Shared → Prop), Inv X pins σ H s → LamX.Tabs tb H → (∀ f s1 H1, Inv X pins σ H1 s1 → LamX.ExtN H H1 → (∀ b, H b ≠ none → H1 b ≠ none) → LamX.Tabs tb H1 → IsKeyV f → KeyTurn X f kf H1 s1 → Q f s1) →
    wpAny (model X.prog X.w) X.A (eval ke X.env) Q E s
end
section
variable {X : Cx} {pins : List (Addr × Obj)} {σ : St} {H : Hp} {s : Shared} {A : Fo}
/-- v (as it lies) stands for d -/
def RV (X : Cx) (A : Fo) (H : Hp) (v : Value) (d : D) : Prop := ∃ x, RelV x v ∧ RD X.K A H x d
theorem each_of : ∀ {xs : List V} {us : List Value} {ds : List D}, Vals xs us → RDs X.K A H xs ds → PySem.W.EachIs (RV X A H) us ds
  | _, _, _, .nil, .nil => .nil
  | _, _, _, .cons r t, .cons h q => .cons ⟨_, r, h⟩ (each_of t q)
theorem each_to : ∀ {us : List Value} {ds : List D}, PySem.W.EachIs (RV X A H) us ds → ∃ xs, Vals xs us ∧ RDs X.K A H xs ds
  | _, _, .nil => ⟨[], .nil, .nil⟩
  | _, _, .cons ⟨x, r, h⟩ t => by
    obtain ⟨xs, h1, h2⟩ := each_to t
    exact ⟨x :: xs, .cons r h1, .cons h h2⟩
/-- the core: what is walked is gathered, then sorted -/
theorem srt_core (I : Inv X pins σ H s) {a : Addr} {f : Value} {ds : List D} {kf : D → Option D} {Q : VK} (hu : X.A.units + 64 < cLine) (hf : IsKeyV f) (turn : KeyTurn X f kf H s) (kz : List D) (ek : mapO kf ds = some kz) (ok : okKs kz = true) (hz : ds.length ≤ sizeLine)
    (hcol : ∀ (R : List Value → Shared → Prop), (∀ (h' : Heap) (tk : Nat) (us : List Value) (xs : List V), (∀ b o, s.heap.get? b = some o → h'.get? b = some o) → Vals xs us → RDs X.K A H xs ds → R us { s with heap := h', toks := tk }) → wpAny (model X.prog X.w) X.A.in1 (collect (.ref a)) R X.xe s)
    (q : ∀ xs p, RDs X.K A H xs (ds.mergeSort (PySem.W.dataLe false (kG kf))) → H p = none → Q (.ref p) (upd H p (.lst xs))) :
    wpAny (model X.prog X.w) X.A (call (.builtin "sorted") [.ref a] [(Str.ofString "key", f)]) (EP X pins σ Q) X.xe s := by
  obtain ⟨ekz, kall⟩ := mapO_eq ek
  obtain ⟨hal, hsk, hdp⟩ := okKs_ok ok
  refine PyProof.Rows.call_function_entry_kw PyProof.Rows.kind_sorted PyProof.Rows.plain_sorted PyProof.Rows.entry_sorted (PyProof.Rows.ksk_s1 _ _) ?_
  unfold Builtin.«sorted»
  refine wpAny_bind (m := checkCount "sorted" 1 1 _) (wpAny_pure ?_)
  refine wpAny_bind (hcol _ fun h' tk us xs hk r rd => ?_)
  have e := each_of r rd
  have hul : us.length = ds.length := e.length
  refine wpAny_bind (PySem.wpAny_newList ?_ (by rw [hul]; exact hz))
  have hoL : (h'.push (PyProof.Rows.seqObj "list" us.toArray 0)).get? h'.objs.size = some (PyProof.Rows.seqObj "list" us.toArray 0) := Heap.get?_push_size _ rfl
  show wpAny _ _ _ _ _ { s with heap := h'.push (PyProof.Rows.seqObj "list" us.toArray 0), toks := tk }
  have old : ∀ {g : Heap}, PySem.W.KeepsBut h'.objs.size (h'.push (PyProof.Rows.seqObj "list" us.toArray 0)) g → ∀ b o, s.heap.get? b = some o → g.get? b = some o := fun {g} kp b o eb => by
    have e1 := hk b o eb
    exact kp b o (Nat.ne_of_lt (Heap.lt_size e1)) (Heap.get?_push_of_some _ e1)
  refine wpAny_bind (wpAny_holding (PyProof.Rows.wpAny_call_entry_kw PyProof.Rows.slot_list_sort ⟨_, hoL, rfl⟩ PyProof.Rows.entry_list_sort ?_ (PyProof.Rows.ksk_l1 _ _)))
  rw [hf]
  subst ekz
  refine PySem.W.keyH_tree (kz := ds.map (kG kf)) (s := { s with heap := h'.push (PyProof.Rows.seqObj "list" us.toArray 0), toks := tk }) hoL (by rw [List.length_map]; exact hul.symm) (by rw [hul]; exact hz) hal hsk (fun d hd => ?_)
    (PySem.W.keyH_turns (s := { s with heap := h'.push (PyProof.Rows.seqObj "list" us.toArray 0), toks := tk }) e fun v d ⟨x, rx, hx⟩ hd h2 tk2 kp => turn A h2 tk2 x v d _ (old kp) hx rx (kall d hd)) fun h3 tk3 out c kp hD ko => ?_
  · have := hdp d hd
    show X.A.units + 1 + 1 + d.depth < cLine
    omega
  · refine ⟨_, rfl, ?_⟩
    have eo := PySem.W.keyedOut_each (kG kf) ko e
    obtain ⟨ys, v1, v2⟩ := each_to eo
    have I1 : Inv X pins σ H { s with heap := h', toks := tk } := I.kept hk
    have old1 : ∀ b o, h'.get? b = some o → h3.get? b = some o := fun b o eb => kp b o (Nat.ne_of_lt (Heap.lt_size eb)) (Heap.get?_push_of_some _ eb)
    have hyl : ys.length = ds.length := by rw [v2.length, List.length_mergeSort]
    refine wpAny_pure ⟨_, rfl, .ref h'.objs.size, upd H h'.objs.size (.lst ys), I1.laid (t' := tk3) old1 (Nat.le_refl _) (show ObjOk X.prog X.w _ _ _ (.lst ys) from ⟨by rw [hyl]; exact hz, out, c, v1, hD⟩), rfl, q ys _ v2 (I1.hok.fresh (Nat.le_refl _))⟩
theorem RKs.keys {K : PySem.W.Frag} : ∀ {kvs : List (Key × V)} {ks : List (D × D)}, RKs K A H kvs ks → RDs K A H (kvs.map fun kv => kV kv.1) (ks.map (·.1))
  | [], [], _ => .nil
  | (.inl i, _) :: _, _ :: _, .cons _ t => .cons (.int i) (RKs.keys t)
  | (.inr z, _) :: _, _ :: _, .cons _ t => .cons (.str z) (RKs.keys t)
/-- what sorted gathers -/
theorem srt_col (I : Inv X pins σ H s) (hc : X.calm = true) {x : V} {v : Value} {d : D} {ds : List D} (rx : RelV x v) (h : RB X.K A H x d) (e : itK d = some ds) (hz : ds.length ≤ sizeLine) : ∃ a, v = .ref a ∧ ∀ (R : List Value → Shared → Prop),
    (∀ (h' : Heap) (tk : Nat) (us : List Value) (xs : List V), (∀ b o, s.heap.get? b = some o → h'.get? b = some o) → Vals xs us → RDs X.K A H xs ds → R us { s with heap := h', toks := tk }) → wpAny (model X.prog X.w) X.A.in1 (collect (.ref a)) R X.xe s := by
  cases d with
  | list ds' =>
    cases e
    obtain ⟨a, xs, ex, sq, r⟩ := h.lst
    subst ex; cases rx
    refine ⟨a, rfl, fun R hR => ?_⟩
    obtain ⟨its, rv, pl, hz2⟩ := I.list sq
    obtain ⟨o, ho, hc, n, hd⟩ := pl.isList
    refine PySem.wpAny_collect_seq a (.inl rfl) ho hc hd (fun h' hk => ?_) (by rw [List.size_toArray, ← rv.length]; exact hz2)
    have := hR h' s.toks its xs hk rv r
    rwa [show its.toArray.toList = its by simp]
  | tuple ds' =>
    cases e
    obtain ⟨a, xs, ex, sq, r⟩ := h.tup
    subst ex; cases rx
    refine ⟨a, rfl, fun R hR => ?_⟩
    obtain ⟨its, rv, ⟨o, ho, hc, n, hd⟩, hz2⟩ := I.tuple sq
    refine PySem.wpAny_collect_seq a (.inr rfl) ho hc hd (fun h' hk => ?_) (by rw [List.size_toArray, ← rv.length]; exact hz2)
    have := hR h' s.toks its xs hk rv r
    rwa [show its.toArray.toList = its by simp]
  | dict ks =>
    cases e
    obtain ⟨a, kvs, ex, sq, r⟩ := h.dct
    subst ex; cases rx
    refine ⟨a, rfl, fun R hR => ?_⟩
    obtain ⟨z, lo, vs, rel, dd⟩ := dk_rd I.hok (.inl sq)
    obtain ⟨ep, hat⟩ := dd.dictAt
    have hkl : kvs.length = vs.length := by
      have := congrArg List.length rel.keys
      rwa [List.length_map, List.length_map] at this
    refine PySem.W.kdu_collect (A := X.A.in1) (PySem.W.kdl_dict (knd := mixKind X.prog X.w) (kvs := vs) (ep := ep) lo) (I.ok.hd hc) hat (by rw [← hkl]; exact z) fun h' tk acc hk hacc => ?_
    refine hR h' tk acc.toList (kvs.map fun kv => kV kv.1) hk ?_ ?_
    · have ek : (kvs.map fun kv => kV kv.1) = vs.map fun p => kV p.1 := by
        have e := congrArg (List.map kV) rel.keys
        rw [List.map_map, List.map_map] at e
        exact e
      rw [ek]
      exact keys_at (by rw [Array.length_toList]; exact hacc.1) fun j v e => hacc.2 j v (by rw [← Array.getElem?_toList]; exact e)
    · exact RKs.keys r
  | _ => cases e
end
theorem nTb_ne {o : HO} (t : nTb o = true) (ps : Array Value) : o ≠ .tbl ps := fun z => by rw [z] at t; cases t
theorem qe_sortK {X : Cx} {F : Fc} {e ke : Expr} {me : M Op} {kf : D → Option D} {p pos kp : Pos} (hc : X.calm = true) (hu : X.A.units + 64 < cLine) (hg : Gl X "sorted") (hm : X.mg "sorted" = none) (he : QE X F e me) (hk : KeyE X F.tb ke kf)
    (hv : bootBuiltins "sorted" = some (.builtin "sorted") := by rfl)
    (h1 : backTo pos (starEach [e] X.env) = (false, eval e X.env) :: backTo pos (starEach [] X.env) := by rfl) (hpl : (backTo pos (starEach [e] X.env)).any (·.1) = false := by rfl)
    (hall : (backToKw pos (keywordEach [⟨some "key", ke, kp⟩] X.env)).all (·.1.isSome) = true := by rfl) (hnone : (backToKw pos (keywordEach [⟨some "key", ke, kp⟩] X.env)).any (·.1.isNone) = false := by rfl)
    (hks : (backToKw pos (keywordEach [⟨some "key", ke, kp⟩] X.env)).filterMap (·.1) = [Str.ofString "key"] := by rfl)
    (hs1 : starEach [e] X.env = (false, eval e X.env) :: starEach [] X.env := by rfl) :
    QE X F (.Call (.Name "sorted" p) [e] [⟨some "key", ke, kp⟩] pos) (m1 (fSrtK kf) me) := by
  refine ⟨fun pins s σ H Q I ⟨T, ρ, R, h⟩ => ?_⟩
  refine wpAny_Call_Name_kw (ld_blt I hg hm hv ?_ (by decide) (by decide))
  unfold m1 at h
  have hpa : PA X [e] (tCons (liftE X.K F me) tNil) := pa_cons he pa_nil hs1
  refine PyProof.Rows.callWith_kw (thn (hpa.run pos pins s σ H (fun vs H1 => ∃ x, vs = [x] ∧ ∃ op ρ1, me ρ = .ok op ρ1 ∧ Post X.K F T H σ ρ op ρ1 x H1) I ⟨T, ρ, R, ?_⟩) fun us s1 ⟨vs, H1, I1, r1, x, evs, op, ρ1, e1, p1⟩ => ?_) h1 hpl hall hnone
  · cases e1 : me ρ with
    | no => rw [e1] at h; exact h.elim
    | er z ρ' => rw [e1] at h; exact h
    | ok op ρ1 => exact fun v H1 p => ⟨v, rfl, op, ρ1, rfl, p⟩
  · subst evs
    obtain ⟨u, eu, rx⟩ := vals1 r1
    subst eu
    rw [e1] at h
    have h : GE X.K F T H σ ρ Q (opt ρ1 ((rd ρ1 op).bind (fSrtK kf))) := h
    cases e2 : rd ρ1 op with
    | none => rw [e2] at h; exact h.elim
    | some d =>
      rw [e2] at h
      have h : GE X.K F T H σ ρ Q (opt ρ1 ((itK d).bind fun ds => (mapO kf ds).bind fun kz => if (okKs kz && decide (ds.length ≤ sizeLine)) = true then some (Op.fr (.list (ds.mergeSort (PySem.W.dataLe false (kG kf))))) else none)) := h
      cases e3 : itK d with
      | none => rw [e3] at h; exact h.elim
      | some ds =>
        rw [e3] at h
        have h : GE X.K F T H σ ρ Q (opt ρ1 ((mapO kf ds).bind fun kz => if (okKs kz && decide (ds.length ≤ sizeLine)) = true then some (Op.fr (.list (ds.mergeSort (PySem.W.dataLe false (kG kf))))) else none)) := h
        cases e4 : mapO kf ds with
        | none => rw [e4] at h; exact h.elim
        | some kz =>
          rw [e4] at h
          have h : GE X.K F T H σ ρ Q (opt ρ1 (if (okKs kz && decide (ds.length ≤ sizeLine)) = true then some (Op.fr (.list (ds.mergeSort (PySem.W.dataLe false (kG kf))))) else none)) := h
          by_cases c : (okKs kz && decide (ds.length ≤ sizeLine)) = true
          · rw [if_pos c] at h
            obtain ⟨c1, c2⟩ := Bool.and_eq_true_iff.mp c
            have c2 := of_decide_eq_true c2
            show wpAny _ _ (evalAll [do let v ← eval ke X.env; standAt pos; pure v]) _ _ s1
            refine wpAny_evalAll_cons (wpAny_bind (hk.run pins s1 σ H1 _ _ I1 p1.rel.tabs fun f s2 H2 I2 ex dm tb2 kv kt => wpAny_bind (wpAny_standAt (wpAny_pure ?_))))
            refine wpAny_evalAll_nil ?_
            rw [hks]
            -- the relation behind the key's making
            have ext2 : Ext σ ρ1 H1 σ ρ1 H2 := ⟨fun b o q t n => ex b o q (nTb_ne t), fun _ z => .inl z, dm⟩
            have R2 : Rel X.K F (TTf T x op) H2 σ ρ1 := by
              refine p1.rel.to (ext2.fb fun _ z => .inl z) (fun b ob o q => ?_) (fun b ob => (p1.rel.os ob).2.1) (fun b q => dm b (p1.rel.tdom b q)) (fun b o _ t _ q => ex b o q (nTb_ne t)) dm fun _ => tb2
              obtain ⟨i, g1, g2⟩ := ob
              obtain ⟨d', z | z⟩ := ownS_cases g1
              · obtain ⟨a, k1, k2, _⟩ := p1.rel.ow i d' z
                rw [g2] at k1; cases k1
                exact ex b o q fun ps z => by
                  cases d' <;> first | exact k2.elim | (obtain ⟨_, k3, _⟩ := k2; rw [q] at k3; cases k3; cases z)
              · obtain ⟨a, _, k1, k2, _⟩ := p1.rel.le i d' z
                rw [g2] at k1; cases k1
                exact ex b o q fun ps z => by
                  cases d' <;> first | exact k2.elim | (obtain ⟨_, k3, _⟩ := k2; rw [q] at k3; cases k3; cases z)
            have vx : VOk X.K F (TTf T x op) H2 σ ρ1 x op := p1.val.ext p1.rel ext2 (fun _ z => z) fun _ z => .inl z
            obtain ⟨a, ea, col⟩ := srt_col I2 hc rx (vx.rb R2 e2) e3 c2
            subst ea
            refine srt_core I2 hu kv kt kz e4 c1 c2 col fun xs pp rr hp => ?_
            exact h _ _ (fin_ R2 (p1.ext.trans ext2) (fun _ z => .inl z) (pr_lst hp rr))
          · rw [if_neg c] at h; exact h.elim
end Vx
set_option maxHeartbeats 2000000
namespace Vx
open PySem PySem.Spec L2
def kAbs : D → Option D
  | .int i => some (.int (if i < 0 then -i else i))
  | _ => none
def kAbsP : D → Option D
  | .int i => some (.tuple [.int (if i < 0 then -i else i), .int i])
  | _ => none
section
variable {X : Cx} {tb : List (Addr × Str)} {p : Pos}
theorem ke_abs (hg : Gl X "abs") (hm : X.mg "abs" = none) (hv : bootBuiltins "abs" = some (.builtin "abs") := by rfl) : KeyE X tb (.Name "abs" p) kAbs := by
  refine ⟨fun pins s σ H Q E I hT h => ?_⟩
  refine ld_blt I hg hm hv (h (.builtin "abs") s H I (fun _ _ e _ => e) (fun _ e => e) hT (fun x => rfl) ?_) (by decide) (by decide)
  intro A g tk x v d kd hk hx rx e
  cases d with
  | int i =>
    cases e
    cases hx
    obtain ⟨t, rfl⟩ := rx
    exact PyProof.Rows.call_abs_int fun u tk2 => ⟨g, tk2, rfl, fun _ _ e => e, Reads.int _ _⟩
  | _ => cases e
end
section
variable {X : Cx} {pins : List (Addr × Obj)} {σ : St} {H : Hp} {s : Shared} {T : List (Addr × Str)} {c P : Addr} {params : Arguments} {body : Expr} {scope : Scope} {pos : Pos}
/-- what is asked of the maker -/
structure LamM (X : Cx) (T : List (Addr × Str)) (c P : Addr) (params : Arguments) (scope : Scope) : Prop where
  tab : LamX.TabB X.base X.mg c P
  code : X.env.code = .ref c
  mem : (P, X.env.qual ++ "<lambda>") ∈ T
  one : ∀ p ∈ T, p.1 = P → p.2 = X.env.qual ++ "<lambda>"
  dflt : defaultsOf params X.env = ([], [])
  free : ∀ y ∈ scope.names, y.2 ≠ .free
theorem cloFrom_nofree {cells : List (Str × Addr)} : ∀ {names : List (Str × NameKind)} (acc : List (Str × Addr)), (∀ y ∈ names, y.2 ≠ .free) → cloFrom cells names acc = acc
  | [], _, _ => rfl
  | (n, k) :: r, acc, h => by
    have hk := h (n, k) List.mem_cons_self
    have ih := cloFrom_nofree (cells := cells) (names := r) acc fun y hy => h y (List.mem_cons_of_mem _ hy)
    cases k <;> first | exact ih | exact absurd rfl hk
abbrev lamO (X : Cx) (params : Arguments) (body : Expr) (scope : Scope) (pm ctv : Value) (c' : Addr) : Obj := PySem.W.kla_obj "<lambda>" (X.env.qual ++ "<lambda>") params body scope [] pm c' ctv
theorem lam_new {E : Value → Shared → Prop} {Q : Value → Shared → Prop} (M : LamM X T c P params scope) (I : Inv X pins σ H s) (hT : LamX.Tabs T H)
    (h : ∀ (f c' : Addr) (pm ctv : Value) (H1 : Hp) (s' : Shared), Inv X pins σ H1 s' → LamX.ExtN H H1 → (∀ b, H b ≠ none → H1 b ≠ none) → LamX.Tabs T H1 → s'.heap.get? f = some (lamO X params body scope pm ctv c') → H1 c' = some (LamX.CodeO c' (X.env.qual ++ "<lambda>")) → Q (.ref f) s') :
    wpAny (model X.prog X.w) X.A (eval (.Lambda params body scope pos) X.env) Q E s := by
  have hfree : ∀ y ∈ scope.names, y.2 = .free → ∃ c, X.env.cells.lookup y.1 = some c := fun y hy e => absurd e (M.free y hy)
  have hcl : closureFor scope X.env = pure [] := by rw [closure_ok hfree, cloFrom_nofree [] M.free]
  obtain ⟨ps, hP, ht, ha⟩ := hT _ M.mem
  have atP : s.heap.get? P = some { cls := .none, data := .fields ps } := I.hok P _ hP
  have gN : s.heap.Ns mainGlobals X.mg := I.mod.glob.keeps I.bk
  have cd := M.tab.code.keeps I.bk
  have bm : s.heap.BuiltinsAt X.mg P := M.tab.bm.keeps I.bk
  refine PySem.W.kla_eval M.dflt ?_
  rcases hc : codeAmong pos ps.toList with _ | cv
  · refine PySem.W.kla_makeFunction (mg := X.mg) (c := c) (P := P) (ps := ps) hcl I.ok.glob gN M.code cd atP ht hc M.tab.gP bm fun c' ctv h' tk hx hge hlt hrec htb => ?_
    obtain ⟨c2, oc, vs, t, e2, hoc, hd, hv⟩ := hrec
    cases e2
    have nC : H c' = none := I.hok.fresh hge
    have nP : P ≠ c' := ne_of_none hP nC
    let ps' := ps ++ #[PySem.rawInt pos.line, PySem.rawInt pos.col, Value.ref c']
    have J := LamX.inv_table (q := X.env.qual ++ "<lambda>") (t' := tk) (more := #[PySem.rawInt pos.line, PySem.rawInt pos.col, Value.ref c']) (h' := h'.push (lamO X params body scope ((X.mg "__name__").getD .none) ctv c')) I hP
      (fun b o hb e => Heap.get?_push_of_some _ (hx b o hb e)) (Heap.get?_push_of_some _ htb) hge ⟨oc, vs, t, Heap.get?_push_of_some _ hoc, hd, hv⟩
    have other : ∀ b, b ≠ P → H b ≠ none → upd (upd H P (.tbl ps')) c' (LamX.CodeO c' (X.env.qual ++ "<lambda>")) b = H b := fun b hb hn => by
      have : b ≠ c' := fun z => hn (z ▸ nC)
      rw [upd_ne this, upd_ne hb]
    have hE : LamX.ExtN H (upd (upd H P (.tbl ps')) c' (LamX.CodeO c' (X.env.qual ++ "<lambda>"))) := fun b o e n => by
      rw [other b (fun z => n ps (Option.some.inj (e.symm.trans (z ▸ hP)))) (by rw [e]; exact fun z => nomatch z)]
      exact e
    refine h _ c' _ ctv _ _ J hE (fun b hb => ?_) (fun q hq => ?_) (Heap.get?_push_size _ rfl) upd_same
    · by_cases z : b = P
      · rw [z, upd_ne nP, upd_same]; exact fun z => nomatch z
      · rw [other b z hb]; exact hb
    · obtain ⟨qs, a1, a2, a3⟩ := hT q hq
      by_cases z : q.1 = P
      · have eq : q.2 = X.env.qual ++ "<lambda>" := M.one q hq z
        refine ⟨ps', by rw [z, upd_ne nP, upd_same], ?_, fun p' cv hcv => ?_⟩
        · show TriplesOk (ps ++ #[PySem.rawInt pos.line, PySem.rawInt pos.col, Value.ref c']).toList
          rw [show (ps ++ #[PySem.rawInt pos.line, PySem.rawInt pos.col, Value.ref c']).toList = ps.toList ++ [PySem.rawInt pos.line, PySem.rawInt pos.col, Value.ref c'] by simp]
          exact PySem.TriplesOk_snoc _ _ _ _ ht
        · rw [show ps'.toList = ps.toList ++ [PySem.rawInt pos.line, PySem.rawInt pos.col, Value.ref c'] by simp [ps']] at hcv
          rw [eq]
          rcases LamX.among_app _ ht hcv with y | y
          · obtain ⟨c0, e1, e2⟩ := ha p' cv y
            exact ⟨c0, e1, hE _ _ e2 LamX.codeO_ne⟩
          · exact ⟨c', y, upd_same⟩
      · refine ⟨qs, by rw [other _ z (by rw [a1]; exact fun z => nomatch z)]; exact a1, a2, fun p' cv hcv => ?_⟩
        obtain ⟨c0, e1, e2⟩ := a3 p' cv hcv
        exact ⟨c0, e1, hE _ _ e2 LamX.codeO_ne⟩
  · obtain ⟨c', e, hco⟩ := ha pos cv hc
    subst e
    refine PySem.W.kla_makeFunctionHit (mg := X.mg) (c := c) (P := P) (ps := ps) hcl I.ok.glob gN M.code cd atP ht hc bm fun ctv h' tk hx hsz => ?_
    exact h _ c' _ ctv H _ (I.kept fun b o e => Heap.get?_push_of_some _ (hx b o e)) (LamX.ExtN.refl H) (fun _ z => z) hT (Heap.get?_push_size _ rfl) hco
/-- lambda x: (abs(x), x) as a key -/
theorem ke_absP {x : Str} {k : Nat} {p1 p2 p3 p4 p5 : Pos} {n : Nat} (hr : Room (n + 1) X.A) (hm : X.mg "abs" = none) (M : LamM X T c P params scope)
    (hk : scope.kind = .function) (hco : scope.isCoroutine = false) (hgen : scope.isGenerator = false) (hcell : ∀ y ∈ scope.names, y.2 ≠ .cell) (hx : scope.names.lookup x = some .local) (hab : scope.names.lookup ("abs" : Str) = some .globalImplicit)
    (hbind : ∀ (v pm ctv : Value) (c' : Addr), bindArgs (PySem.W.kla_fn "<lambda>" (X.env.qual ++ "<lambda>") params (.Tuple [.Call (.Name "abs" p1) [.Name x p2] [] p3, .Name x p4] k p5) scope [] pm (.ref c') ctv) ⟨[v], []⟩ = pure [(x, v)])
    (hd : (x == ("__debug__" : Str)) = false := by decide) (hv : bootBuiltins "abs" = some (.builtin "abs") := by rfl) :
    KeyE X T (.Lambda params (.Tuple [.Call (.Name "abs" p1) [.Name x p2] [] p3, .Name x p4] k p5) scope pos) kAbsP := by
  refine ⟨fun pins s σ H Q E I hT h => ?_⟩
  refine lam_new M I hT fun f c' pm ctv H1 s' I1 ex dm tb2 hf hc' => h (.ref f) s' H1 I1 ex dm tb2 (fun x => rfl) ?_
  intro A g tk y v d kd hk2 hy ry e
  cases d with
  | int i =>
    cases e
    cases hy
    obtain ⟨t, rfl⟩ := ry
    have of1 := hk2 _ _ hf
    obtain ⟨⟨oc, vs, tq, hoc, hdc, hvc⟩, _, _⟩ := I1.hok c' _ hc'
    have hoc2 := hk2 _ _ hoc
    obtain ⟨mb, b1, b2⟩ := I.mod.blt
    have kb : ∀ b o, X.base.get? b = some o → g.get? b = some o := fun b o e => hk2 b o (I1.bk b o e)
    refine wpAny_call ?_
    refine PySem.W.kla_callFunE (show X.A.in1.in1.depth < recursionLimit from hr.in1.depth) of1 rfl hco hgen rfl ⟨c', oc, vs, tq, rfl, hoc2, hdc, hvc⟩ ?_
    rw [hbind]
    refine wpAny_pure (wpAny_newFunctionEnv hcell (fun z hz => ?_) (fun h₁ hns hsb => ⟨?_, ?_⟩) hk)
    · have : z = (x, Value.int i t) := by simpa using hz
      rw [this]; exact hx
    · exact ((I1.ok.mod.nolimit).keeps kb).fresh _ hsb
    · have kp : ∀ b o, g.get? b = some o → h₁.get? b = some o := fun b o e => hsb.extBut b o (Nat.ne_of_lt (Heap.lt_size e)) (Heap.get?_push_of_some _ e)
      have kb1 : ∀ b o, X.base.get? b = some o → h₁.get? b = some o := fun b o e => kp b o (kb b o e)
      show codeAny _ _ (.expr _ (PySem.W.envX (X.env.qual ++ "<lambda>") scope g.objs.size f (.ref c') [])) _ _
      refine PySem.W.kla_codeExpr ?_
      refine wpAny_Tuple_spliced (PyProof.Rows.args_cons ?_)
      refine PyProof.Rows.Call_ (PySem.Calls.Name_function_global hk hab (PySem.Calls.loadGlobal_builtin (mg := X.mg) (mb := mb) (I1.ok.mod.glob.keeps kb1) hm (b1.keeps kb1) ((b2 _ (by decide)).trans hv) ?_))
      refine callWith_builtin1 (wpAny_Name (wpAny_loadName_local hk hx hns (v := .int i t) (by simp [List.lookup]) ?_) hd)
      refine PyProof.Rows.call_abs_int fun u tk2 => ?_
      refine PyProof.Rows.args_cons (wpAny_Name (wpAny_loadName_local hk hx (show Heap.Ns h₁ _ _ from hns) (v := .int i t) (by simp [List.lookup]) ?_) hd)
      refine PyProof.Rows.args_nil ⟨by show 2 ≤ sizeLine; decide, ?_⟩
      refine ⟨_, _, rfl, fun b o e => Heap.get?_push_of_some _ (kp b o e), ?_⟩
      refine Reads.tuple (Heap.get?_push_size _ rfl) rfl rfl ?_
      exact ReadsAll.cons (Reads.int _ _) (ReadsAll.cons (Reads.int _ _) ReadsAll.nil)
  | _ => cases e
end
end Vx
set_option maxHeartbeats 2000000
namespace Vx
open PySem PySem.Spec L2
def keyD : D → Option Key
  | .int i => some (.inl i)
  | .str z => some (.inr z)
  | _ => none
def eqKD : D → Key → Bool
  | .int i, .inl j => decide (i = j)
  | .str i, .inr j => decide (i = j)
  | _, _ => false
def putD (ks : List (D × D)) (k : Key) (d : D) : List (D × D) := if (ks.any fun p => eqKD p.1 k) = true then ks.map (fun p => if eqKD p.1 k = true then (p.1, d) else p) else ks ++ [(kD k, d)]
theorem eqKD_kD (k j : Key) : eqKD (kD k) j = decide (k = j) := by
  cases k <;> cases j <;> simp [eqKD, kD]
theorem keyD_kV {K : PySem.W.Frag} {A : Fo} {H : Hp} {kd : D} {k : Key} {y : V} (e : keyD kd = some k) (r : RD K A H y kd) : y = kV k := by
  cases kd <;> cases e <;> cases r <;> rfl
section
variable {K : PySem.W.Frag} {A : Fo} {H : Hp}
theorem RKs.anyK (k : Key) : ∀ {kvs : List (Key × V)} {ks : List (D × D)}, RKs K A H kvs ks → (kvs.any fun kv => decide (kv.1 = k)) = ks.any fun p => eqKD p.1 k
  | [], [], _ => rfl
  | (k', _) :: _, _ :: _, .cons _ t => by
    rw [List.any_cons, List.any_cons, RKs.anyK k t, eqKD_kD]
theorem RKs.mapK (k : Key) {v : V} {d : D} (r : RD K A H v d) : ∀ {kvs : List (Key × V)} {ks : List (D × D)}, RKs K A H kvs ks → RKs K A H (kvs.map fun kv => if kv.1 = k then (kv.1, v) else kv) (ks.map fun p => if eqKD p.1 k = true then (p.1, d) else p)
  | [], [], _ => .nil
  | (k', u) :: _, _ :: _, .cons h t => by
    rw [List.map_cons, List.map_cons]
    by_cases c : k' = k
    · rw [if_pos c, if_pos (by rw [eqKD_kD]; exact decide_eq_true c)]
      exact .cons r (RKs.mapK k r t)
    · rw [if_neg c, if_neg (by rw [eqKD_kD]; exact fun z => c (of_decide_eq_true z))]
      exact .cons h (RKs.mapK k r t)
theorem RKs.snoc (k : Key) {v : V} {d : D} (r : RD K A H v d) : ∀ {kvs : List (Key × V)} {ks : List (D × D)}, RKs K A H kvs ks → RKs K A H (kvs ++ [(k, v)]) (ks ++ [(kD k, d)])
  | [], [], _ => .cons r .nil
  | _ :: _, _ :: _, .cons h t => .cons h (RKs.snoc k r t)
theorem RKs.put {kvs : List (Key × V)} {ks : List (D × D)} (h : RKs K A H kvs ks) (k : Key) {v : V} {d : D} (r : RD K A H v d) : RKs K A H (putK kvs k v) (putD ks k d) := by
  unfold putK putD
  rw [h.anyK k]
  by_cases c : (ks.any fun p => eqKD p.1 k) = true
  · rw [if_pos c, if_pos c]; exact h.mapK k r
  · rw [if_neg c, if_neg c]; exact h.snoc k r
end
def dcI (t : Tg) (tt : M Bool) (ke e : M Op) (vs : List Nat) : List D → List (D × D) → M (List (D × D))
  | [], acc, ρ => .ok acc ρ
  | d :: ds, acc, ρ => match t d (unS ρ vs) with
    | none => .no
    | some ρ1 => match tt ρ1 with
      | .ok true ρ2 => (match mK ke ρ2 with
        | .ok kd ρ3 => (match mK e ρ3 with
          | .ok y ρ4 => (match keyD kd with
            | some k => if acc.length < sizeLine then dcI t tt ke e vs ds (putD acc k y) ρ4 else .no
            | none => .no)
          | _ => .no)
        | _ => .no)
      | .ok false ρ2 => dcI t tt ke e vs ds acc ρ2
      | _ => .no
def mDc (it : M (List D)) (t : Tg) (tt : M Bool) (ke e : M Op) (vs : List Nat) : M Op := fun ρ => (it ρ).bind fun ds ρ1 =>
  if vs.all (fun v => wipable ρ1[v]?) then (match dcI t tt ke e vs ds [] ρ1 with
    | .ok acc ρ2 => .ok (.fr (.dict acc)) (bkS ρ1 ρ2 vs)
    | _ => .no) else .no
section
variable {K : PySem.W.Frag} {F : Fc} {t : Tg} {ws : List Nat} {tt : M Bool} {ke e : M Op} {it : M (List D)} {vs : List Nat}
theorem liftDc {σ : St} {H : Hp} {Q : VK} (hw : ∀ w ∈ ws, w ∈ vs) (h : liftE K F (mDc it t tt ke e vs) σ H Q) :
    tDc (liftI K F it) (liftG K F.nox t ws) (liftT K F.nox tt) (liftK K F.nox (mK ke)) (liftK K F.nox (mK e)) vs σ H Q := by
  obtain ⟨T, ρ, R, h⟩ := h
  refine ⟨T, ρ, R, ?_⟩
  unfold mDc at h
  cases e1 : it ρ with
  | no => rw [e1] at h; exact h.elim
  | er x ρ' => rw [e1] at h; exact h
  | ok ds ρ1 =>
    rw [e1] at h
    rw [Rs.bind_ok] at h
    intro J H1 R1 x1 ok D hD
    by_cases c : (vs.all fun v => wipable ρ1[v]?) = true
    · rw [if_pos c] at h
      have wp : ∀ v ∈ vs, wipable ρ1[v]? = true := List.all_eq_true.mp c
      cases e2 : dcI t tt ke e vs ds [] ρ1 with
      | no => rw [e2] at h; exact h.elim
      | er x ρ' => rw [e2] at h; exact h.elim
      | ok accF ρF =>
        rw [e2] at h
        dsimp only at h
        -- the new list is forbidden
        have hD0 : F.H0 D = none := R1.h0none hD
        let TD : Fo := fun b => T b ∨ b = D
        have gr : ∀ b o, H1 b = some o → upd H1 D (.dK []) b = some o := upd_grow hD
        have R1d : Rel K F TD (upd H1 D (.dK [])) σ ρ1 := R1.more (fun b z => z.imp id fun z => by subst z; exact ⟨hD, by rw [upd_same]; exact fun z => nomatch z⟩) gr
        have lD : Le (Fb F T σ ρ1) H1 (Fb F TD (L2.wipe σ vs) (unS ρ1 vs)) (upd H1 D (.dK [])) := ⟨fun b o q _ _ => gr b o q, fun b z => by
          rcases z with z | z | z
          · exact .inl (.inl z)
          · exact z.imp (fun z => .inr (.inl z)) fun z => by rw [z]; exact hD
          · exact .inl (.inr (.inr (os_wipe z))), grow_dom gr⟩
        have xw : Ext σ ρ1 H1 (L2.wipe σ vs) (unS ρ1 vs) (upd H1 D (.dK [])) := ⟨fun b o q _ _ => gr b o q, fun b z => .inl (os_wipe z), grow_dom gr⟩
        -- the state ahead of turn i
        let Wc : Nat → Hp → Prop := fun i H' => ∃ ρ' acc accD, Rel K F TD H' (L2.wipe σ vs) (unS ρ' vs) ∧ H' D = some (.dK acc) ∧ RKs K (Fb F TD (L2.wipe σ vs) (unS ρ' vs)) H' acc accD ∧
          Ext σ ρ1 H1 (L2.wipe σ vs) (unS ρ' vs) H' ∧ Le (Fb F T σ ρ1) H1 (Fb F TD (L2.wipe σ vs) (unS ρ' vs)) H' ∧ dcI t tt ke e vs (ds.drop i) accD ρ' = .ok accF ρF
        refine ⟨fun i m H' => m = ds.length - i ∧ i ≤ ds.length ∧ Wc i H', ⟨ds.length, rfl, Nat.zero_le _, ρ1, [], [], R1d.wipe, upd_same, .nil, xw, lD, e2⟩, ?_⟩
        rintro i m H2 ⟨rfl, hi, ρ2, acc, accD, R2, hacc, racc, x2, l2, g2⟩
        obtain ⟨go, stop⟩ := ok i _ H2 l2 (fun b z => R2.fbd z) R2.keep
        by_cases hlt : i < ds.length
        · refine .inr ?_
          have ed : ds.drop i = ds[i] :: ds.drop (i + 1) := List.drop_eq_getElem_cons hlt
          obtain ⟨hgo, hy⟩ := go ds[i] (List.getElem?_eq_getElem hlt)
          rw [ed] at g2
          refine ⟨hgo, Wc (i + 1), fun H' n => ⟨ds.length - (i + 1), by omega, rfl, hlt, n⟩, fun x H3 y => ?_⟩
          obtain ⟨gr3, rx⟩ := hy x H3 y
          have R3 := R2.grow gr3
          unfold dcI at g2
          cases q1 : t ds[i] (unS ρ2 vs) with
          | none => rw [q1] at g2; cases g2
          | some ρ3 =>
            rw [q1] at g2
            dsimp only at g2
            refine ⟨TD, unS ρ2 vs, ds[i], R3.nox, rx, ρ3, q1, fun σ4 H4 R4 x4 w4 => ⟨wipe_eq w4 hw, TD, ρ3, R4, ?_⟩⟩
            have we := wipe_eq w4 hw
            have x24 : Ext (L2.wipe σ vs) (unS ρ2 vs) H2 σ4 ρ3 H4 := (Ext.grow gr3).trans x4
            -- back to the block's own slots
            have back : ∀ {ρ5 : Ev} {H5 : Hp}, Rel K F TD H5 σ4 ρ5 → Ext σ4 ρ3 H4 σ4 ρ5 H5 → Rel K F TD H5 (L2.wipe σ vs) (unS ρ5 vs) ∧ Ext (L2.wipe σ vs) (unS ρ2 vs) H2 (L2.wipe σ vs) (unS ρ5 vs) H5 := fun {ρ5 H5} R5 x5 => by
              have r := R5.wipe (vs := vs)
              rw [we] at r
              refine ⟨r, (x24.trans x5).kept, fun b z => ?_, (x24.trans x5).dom⟩
              have z : OS (L2.wipe σ4 vs) (unS ρ5 vs) b := by rw [we]; exact z
              exact (x24.trans x5).os b (os_wipe z)
            have dst : ∀ {ρ5 : Ev} {H5 : Hp}, Ext σ4 ρ3 H4 σ4 ρ5 H5 → H5 D = some (.dK acc) := fun {ρ5 H5} x5 =>
              (x24.trans x5).kept D _ hacc rfl fun z => (R2.os z).2.1 (.inr rfl)
            have go1 : ∀ {ρ5 : Ev} {H5 : Hp}, Rel K F TD H5 σ4 ρ5 → Ext σ4 ρ3 H4 σ4 ρ5 H5 → dcI t tt ke e vs (ds.drop (i + 1)) accD ρ5 = .ok accF ρF → Wc (i + 1) H5 := fun {ρ5 H5} R5 x5 g5 => by
              obtain ⟨b1, b2⟩ := back R5 x5
              have l5 : Le (Fb F TD (L2.wipe σ vs) (unS ρ2 vs)) H2 (Fb F TD (L2.wipe σ vs) (unS ρ5 vs)) H5 := b2.fb fun _ z => .inl z
              exact ⟨ρ5, acc, accD, b1, dst x5, RKs.mono l5 _ _ racc, x2.trans b2, l2.trans l5, g5⟩
            cases q2 : tt ρ3 with
            | no => rw [q2] at g2; cases g2
            | er z ρ' => rw [q2] at g2; cases g2
            | ok k ρ5 =>
              rw [q2] at g2
              intro H5 R5 x5
              cases k with
              | false =>
                dsimp only at g2
                rw [if_neg Bool.false_ne_true]
                exact go1 R5.unnox x5 g2
              | true =>
                dsimp only at g2
                rw [if_pos rfl]
                refine ⟨TD, ρ5, R5, ?_⟩
                cases q0 : mK ke ρ5 with
                | no => rw [q0] at g2; cases g2
                | er z ρ' => rw [q0] at g2; cases g2
                | ok kd ρ5b =>
                  rw [q0] at g2
                  dsimp only at g2
                  intro y H5b R5b x5b r5b
                  refine ⟨TD, ρ5b, R5b, ?_⟩
                  cases q3 : mK e ρ5b with
                  | no => rw [q3] at g2; cases g2
                  | er z ρ' => rw [q3] at g2; cases g2
                  | ok d ρ6 =>
                    rw [q3] at g2
                    dsimp only at g2
                    cases q7 : keyD kd with
                    | none => rw [q7] at g2; cases g2
                    | some key =>
                    rw [q7] at g2
                    dsimp only at g2
                    by_cases cz : accD.length < sizeLine
                    · rw [if_pos cz] at g2
                      intro v H6 R6 x6 r6
                      have x46 := (x5.trans x5b).trans x6
                      have h6 := dst x46
                      refine ⟨acc, key, keyD_kV q7 r5b, h6, by rw [racc.length]; exact cz, ?_⟩
                      obtain ⟨b1, b2⟩ := back R6.unnox x46
                      have l6 : Le (Fb F TD (L2.wipe σ vs) (unS ρ2 vs)) H2 (Fb F TD (L2.wipe σ vs) (unS ρ6 vs)) H6 := b2.fb fun _ z => .inl z
                      have fD : Fb F TD (L2.wipe σ vs) (unS ρ6 vs) D := .inr (.inl (.inr rfl))
                      have ne : ∀ b, b ≠ D → upd H6 D (.dK (putK acc key v)) b = H6 b := fun b z => upd_ne z
                      have dm7 : ∀ b, H6 b ≠ none → upd H6 D (.dK (putK acc key v)) b ≠ none := fun b z => by
                        by_cases q : b = D
                        · rw [q, upd_same]; exact fun z => nomatch z
                        · rw [ne b q]; exact z
                      have l7 : Le (Fb F TD (L2.wipe σ vs) (unS ρ6 vs)) H6 (Fb F TD (L2.wipe σ vs) (unS ρ6 vs)) (upd H6 D (.dK (putK acc key v))) := ⟨fun b o q _ n => by rw [ne b fun z => n (by rw [z]; exact fD)]; exact q, fun b z => .inl z, dm7⟩
                      have nos : ∀ b, OS (L2.wipe σ vs) (unS ρ6 vs) b → b ≠ D := fun b z q => (b1.os z).2.1 (by rw [q]; exact .inr rfl)
                      have R7 : Rel K F TD (upd H6 D (.dK (putK acc key v))) (L2.wipe σ vs) (unS ρ6 vs) := b1.to l7 (fun b z o q => by rw [ne b (nos b z)]; exact q) (fun b z => (b1.os z).2.1) (fun b z => dm7 b (b1.tdom b z)) (fun b o q _ n q2 => by
                        rw [ne b fun z => by rw [z, hD0] at q; cases q]; exact q2) dm7 fun z => tabs_dct z h6
                      have vd : RD K (Fb F TD (L2.wipe σ vs) (unS ρ6 vs)) H6 v d := RD.mono (Le.less fun b z => by
                        rcases z with z | z | z
                        · exact .inl z
                        · exact .inr (.inl z)
                        · have z : OS (L2.wipe σ4 vs) (unS ρ6 vs) b := by rw [we]; exact z
                          exact .inr (.inr (os_wipe z))) _ _ r6
                      have x7 : Ext σ ρ1 H1 (L2.wipe σ vs) (unS ρ6 vs) (upd H6 D (.dK (putK acc key v))) := by
                        have x8 := x2.trans b2
                        refine ⟨fun b o q t n => ?_, x8.os, fun b z => dm7 b (x8.dom b z)⟩
                        rw [ne b fun z => by rw [z, hD] at q; cases q]
                        exact x8.kept b o q t n
                      exact ⟨ρ6, putK acc key v, putD accD key d, R7, upd_same, RKs.mono l7 _ _ ((RKs.mono l6 _ _ racc).put key vd), x7, (l2.trans l6).trans l7, g2⟩
                    · rw [if_neg cz] at g2; cases g2
        · have en : ds.length = i := by omega
          refine .inl ⟨stop en, ?_⟩
          rw [List.drop_eq_nil_of_le (Nat.le_of_eq en)] at g2
          unfold dcI at g2
          cases g2
          have hl : ρF.length = ρ1.length := by
            have := R2.len
            rw [unS_len, wipe_length] at this
            rw [this, R1.len]
          have RF : Rel K F TD H2 σ (bkS ρ1 ρF vs) := Rel.unwipe R1 wp R2 l2
          have tt_ : ∀ b, TTf T (.ref D) (.fr (.dict accF)) b → TD b := fun b z => z.imp id fun ⟨_, _, z⟩ => by cases z; rfl
          have fl : ∀ b, Fb F (TTf T (.ref D) (.fr (.dict accF))) σ (bkS ρ1 ρF vs) b → Fb F TD (L2.wipe σ vs) (unS ρF vs) b := fun b z => by
            rcases z with z | z | z
            · exact .inl z
            · exact .inr (.inl (tt_ b z))
            · exact .inr (.inr (os_unwipe wp hl z))
          refine h _ H2 ⟨RF.less tt_, x1.trans ⟨x2.kept, fun b z => x2.os b (os_unwipe wp hl z), x2.dom⟩, ⟨D, rfl, .inr ⟨_, rfl, rfl⟩, ⟨acc, hacc, RKs.mono (Le.less fl) _ _ racc⟩, fun z => R1.tdom D (.inl z) hD, hD0⟩, fun d a e1 e2 => ?_⟩
          cases e2
          cases q : H D with
          | none => rfl
          | some o => exact absurd hD (x1.dom D (by rw [q]; exact fun z => nomatch z))
    · rw [if_neg c] at h; exact h.elim
end
theorem qe_dc {X : Cx} {F : Fc} {kx vx tg iter : Expr} {ifs : List Expr} {scope : Scope} {own : List (Str × Nat)} {pos : Pos} {t : Tg} {ws : List Nat} {tt : M Bool} {ke e : M Op} {it : M (List D)}
    (hc : X.calm = true) (hN : X.N.Nodup) (hi : QI X F tg iter it) (ok : BlkOk X.N X.env.scope scope own) (hw : ∀ w ∈ ws, w ∈ own.map (·.2))
    (hg : ∀ s H C cl fp, QG (X.blk s H scope (compEnvC scope cl C X.env) fp) F.nox tg t ws) (ht : ∀ s H C cl fp, PTs (X.blk s H scope (compEnvC scope cl C X.env) fp) ifs (liftT X.K F.nox tt))
    (hk : ∀ s H C cl fp, QE (X.blk s H scope (compEnvC scope cl C X.env) fp) F.nox kx ke) (he : ∀ s H C cl fp, QE (X.blk s H scope (compEnvC scope cl C X.env) fp) F.nox vx e) (hs : ∀ x, foldedSetIterable iter X.env x = pure x := by intro _; rfl) :
    QE X F (.DictComp kx vx [⟨tg, iter, ifs, 0⟩] scope pos) (mDc it t tt ke e (own.map (·.2))) :=
  (pe_dc (g := liftG X.K F.nox t ws) (tk := liftK X.K F.nox (mK ke)) (tv := liftK X.K F.nox (mK e)) hc hN hi ok hg ht (fun s H C cl fp => liftK_ (hk s H C cl fp)) (fun s H C cl fp => liftK_ (he s H C cl fp)) hs).imp fun _ _ _ h => liftDc hw h
end Vx
set_option maxHeartbeats 2000000
namespace Vx
open PySem PySem.Spec L2
theorem loc_of {sc : Scope} {x : Str} (h : sc.names.lookup x = some .local ∨ sc.names.lookup x = some .cell := by first | exact Or.inl rfl | exact Or.inr rfl) : Loc sc x := h
section
variable {k : Nat} {A : Around}
theorem u65 (r : Room k A) : A.units + 65 < cLine := by have := r.un; omega
end
section
variable {P : Program} {w : World} {K : PySem.W.Frag} {mg : Str → Option Value} {base : Heap} {x qual : Str} {params : Arguments} {body : List Stmt} {scope : Scope} {dvs : List V} {kws : List (Str × V)} {f : Addr} {fd : FuncData} {N ps : List Str} {k : Nat}
/-- THE RULE for a def whose code object is asked for -/
theorem fn_okC {cn : Str → Addr} {tb : List (Addr × Str)} {md : List Md} {m : M Fl} (F : FunD K x qual params body scope dvs kws f fd) (S : FnScope N ps scope) (hm : md.length = ps.length) (hN : ps.length ≤ N.length)
    (hb : ∀ (cdv : Value) (A : Around) (outer : List Env) (s : Shared) (H : Hp) (E : XK) (F : Fc), cdv = fd.code → Room k (A.deeper (PyProof.Rows.envOfC qual scope s.heap.objs.size f cdv)) → F.cn = cn → F.tb = tb → Takes (cxOf (L2.CX P w) P w K mg base N qual scope f cdv A outer s H E) F.W →
      QSs (cxOf (L2.CX P w) P w K mg base N qual scope f cdv A outer s H E) F body m) : FnOk P w K mg base (L2.CX P w) (k + 1) f fd ps (spV K cn tb md (runD md (N.length - md.length) m)) := by
  obtain ⟨oc, od, dV, kV, doc, pm, an, cdv, ct, osl, rfl, lk, hcd, _, _⟩ := F.ex
  refine fn_of lk hcd S (spV_len hm) fun A outer s H vs Q E hr h => ?_
  obtain ⟨htb, A', ds, ls, hA, hl, nd, r, g⟩ := h
  exact ⟨_, hb cdv A outer s H E (fcOf cn tb A' H md vs ls E) rfl hr rfl rfl (takes_of rfl rfl rfl rfl), exit_ok (σ := []) (ρ := []) hA hl nd r (by rw [hm]; exact hN) htb g⟩
/-- a def that is never called so deep -/
theorem fn_no {cn : Str → Addr} {tb : List (Addr × Str)} {md : List Md} (F : FunD K x qual params body scope dvs kws f fd) (S : FnScope N ps scope) (hm : md.length = ps.length) : FnOk P w K mg base (L2.CX P w) (k + 1) f fd ps (spV K cn tb md fun _ => .no) :=
  F.ok S (spV_len hm) fun cdv A outer s H vs Q E hr h => by
    obtain ⟨_, _, _, _, _, _, _, _, g⟩ := h
    exact g.elim
end
theorem code_of {K : PySem.W.Frag} {x qual : Str} {params : Arguments} {body : List Stmt} {scope : Scope} {dvs : List V} {kws : List (Str × V)} {f : Addr} {fd : FuncData} (F : FunD K x qual params body scope dvs kws f fd) {p : He.Defn} (hf : He.fAd K p = f) : fd.code = .ref (He.cT K p).1 := by
  obtain ⟨oc, od, dV, kV, doc, pm, an, cdv, ct, osl, rfl, lk, hcd, _, _⟩ := F.ex
  subst hf
  cases cdv with
  | ref c => exact congrArg Value.ref (He.codeOf_eq lk rfl).symm
  | _ => cases hcd
theorem cx_no {P : Program} {w : World} {H : Hp} {s s' : Shared} {e : Value} {fs : List Env} (z : L2.CX P w fs H s (fun _ _ _ => False) e s') : False := by
  obtain ⟨_, _, _, _, _, _, _, _, _, _, _, _, q⟩ := z
  exact q
/-- the law's promise from what its mirror says -/
theorem law_sp {K : PySem.W.Frag} {cn : Str → Addr} {tb : List (Addr × Str)} {g : List D → FR} {H : Hp} {a : Addr} {ns : List Int} {E : XK} (hT : ∀ p ∈ tb, H p.1 = some (.tbl #[])) (hS : SqL K H a (ns.map V.int)) (hl : g [.list (ns.map .int)] = .ok false (.bool true) []) :
    spV K cn tb [.pl] g [.ref a] H (fun v _ => v = .bl true) E := by
  refine ⟨fun p hp => LamX.TabS.nil (hT p hp), fun _ => False, [.list (ns.map .int)], [], fun _ z => z.elim, fun _ z => (nomatch z), List.nodup_nil, ?_, ?_⟩
  · refine .pl (.inr ⟨a, rfl, .inl ⟨_, _, rfl, ?_, RDs.ints ns⟩⟩) .nil
    rcases hS with hS | hS
    · exact .inl ⟨hS, fun z => nomatch z⟩
    · exact .inr hS
  · rw [hl]
    intro v H' _ _ r
    have r : RD K (fun _ => False) H' v (.bool true) := r
    cases r; rfl
end Vx
set_option maxHeartbeats 0
namespace Wk
open PySem PySem.Spec L2 Vx
def top (i : Nat) : Stmt := PySem.Challenge.pw_followways_k09_whole_thinned_left_turned.main.body.getD i (.Pass ⟨0, 0, 0, 0⟩)
abbrev s_is_integer : Stmt := top 1
abbrev s_is_within : Stmt := top 2
abbrev s_two_to : Stmt := top 3
abbrev s_bits_of : Stmt := top 4
abbrev s_is_clause : Stmt := top 14
abbrev s_is_clauses : Stmt := top 15
abbrev s_check_clauses : Stmt := top 16
abbrev s_many_in : Stmt := top 17
abbrev s_holds_in : Stmt := top 18
abbrev s_first_broken : Stmt := top 19
abbrev s_models_of : Stmt := top 20
abbrev s_joined : Stmt := top 21
abbrev s_is_part : Stmt := top 22
abbrev s_thinned : Stmt := top 23
abbrev s_left_by : Stmt := top 24
abbrev s_is_lot : Stmt := top 25
abbrev s_check_lot : Stmt := top 26
abbrev s_given_lot : Stmt := top 27
abbrev s_turned_atoms : Stmt := top 28
abbrev s_is_names : Stmt := top 29
abbrev s__law_hand : Stmt := top 31
abbrev s__law_draw : Stmt := top 32
abbrev s__law_any : Stmt := top 33
abbrev s__law_mixed : Stmt := top 34
abbrev s__law_same : Stmt := top 35
abbrev s__law_clause : Stmt := top 36
abbrev s__law_clauses : Stmt := top 37
abbrev s__law_many : Stmt := top 38
abbrev s__law_atoms_of : Stmt := top 39
abbrev s__law_worlds : Stmt := top 40
abbrev s__law_breaks : Stmt := top 41
abbrev s__law_models : Stmt := top 42
abbrev s__law_joined : Stmt := top 43
abbrev s__law_has_all : Stmt := top 44
abbrev s__law_thin : Stmt := top 45
abbrev s__law_left : Stmt := top 46
abbrev s__law_is_lot_right : Stmt := top 47
abbrev s__law_is_turned_right : Stmt := top 48
abbrev s_law : Stmt := top 49
section
variable {P : Program} {w : World} {K : PySem.W.Frag} {mg : Str → Option Value} {base : Heap} {fa : Nat → Addr} {fdd : Nat → FuncData} {cn : Str → Addr} {tb : List (Addr × Str)}
/-- what the head tells -/
structure Hs (K : PySem.W.Frag) (mg : Str → Option Value) (base : Heap) (fa : Nat → Addr) (fdd : Nat → FuncData) (tb : List (Addr × Str)) : Prop where
  F0 : FunD K "is_integer" "is_integer" (defArgs s_is_integer) (defBody s_is_integer) (defScope s_is_integer) [] [] (fa 0) (fdd 0)
  G0 : mg "is_integer" = some (.ref (fa 0))
  F1 : FunD K "is_within" "is_within" (defArgs s_is_within) (defBody s_is_within) (defScope s_is_within) [] [] (fa 1) (fdd 1)
  G1 : mg "is_within" = some (.ref (fa 1))
  F2 : FunD K "two_to" "two_to" (defArgs s_two_to) (defBody s_two_to) (defScope s_two_to) [] [] (fa 2) (fdd 2)
  G2 : mg "two_to" = some (.ref (fa 2))
  F3 : FunD K "bits_of" "bits_of" (defArgs s_bits_of) (defBody s_bits_of) (defScope s_bits_of) [] [] (fa 3) (fdd 3)
  G3 : mg "bits_of" = some (.ref (fa 3))
  F4 : FunD K "is_clause" "is_clause" (defArgs s_is_clause) (defBody s_is_clause) (defScope s_is_clause) [] [] (fa 4) (fdd 4)
  G4 : mg "is_clause" = some (.ref (fa 4))
  F5 : FunD K "is_clauses" "is_clauses" (defArgs s_is_clauses) (defBody s_is_clauses) (defScope s_is_clauses) [] [] (fa 5) (fdd 5)
  G5 : mg "is_clauses" = some (.ref (fa 5))
  F6 : FunD K "check_clauses" "check_clauses" (defArgs s_check_clauses) (defBody s_check_clauses) (defScope s_check_clauses) [] [] (fa 6) (fdd 6)
  G6 : mg "check_clauses" = some (.ref (fa 6))
  F7 : FunD K "many_in" "many_in" (defArgs s_many_in) (defBody s_many_in) (defScope s_many_in) [] [] (fa 7) (fdd 7)
  G7 : mg "many_in" = some (.ref (fa 7))
  F8 : FunD K "holds_in" "holds_in" (defArgs s_holds_in) (defBody s_holds_in) (defScope s_holds_in) [] [] (fa 8) (fdd 8)
  G8 : mg "holds_in" = some (.ref (fa 8))
  F9 : FunD K "first_broken" "first_broken" (defArgs s_first_broken) (defBody s_first_broken) (defScope s_first_broken) [] [] (fa 9) (fdd 9)
  G9 : mg "first_broken" = some (.ref (fa 9))
  F10 : FunD K "models_of" "models_of" (defArgs s_models_of) (defBody s_models_of) (defScope s_models_of) [] [] (fa 10) (fdd 10)
  G10 : mg "models_of" = some (.ref (fa 10))
  F11 : FunD K "joined" "joined" (defArgs s_joined) (defBody s_joined) (defScope s_joined) [] [] (fa 11) (fdd 11)
  G11 : mg "joined" = some (.ref (fa 11))
  T11 : ∃ c P, (fdd 11).code = .ref c ∧ LamX.TabB base mg c P ∧ (P, ("joined.<locals>.<lambda>" : Str)) ∈ tb ∧ ∀ p ∈ tb, p.1 = P → p.2 = ("joined.<locals>.<lambda>" : Str)
  F12 : FunD K "is_part" "is_part" (defArgs s_is_part) (defBody s_is_part) (defScope s_is_part) [] [] (fa 12) (fdd 12)
  G12 : mg "is_part" = some (.ref (fa 12))
  F13 : FunD K "thinned" "thinned" (defArgs s_thinned) (defBody s_thinned) (defScope s_thinned) [] [] (fa 13) (fdd 13)
  G13 : mg "thinned" = some (.ref (fa 13))
  F14 : FunD K "left_by" "left_by" (defArgs s_left_by) (defBody s_left_by) (defScope s_left_by) [] [] (fa 14) (fdd 14)
  G14 : mg "left_by" = some (.ref (fa 14))
  F15 : FunD K "is_lot" "is_lot" (defArgs s_is_lot) (defBody s_is_lot) (defScope s_is_lot) [] [] (fa 15) (fdd 15)
  G15 : mg "is_lot" = some (.ref (fa 15))
  F16 : FunD K "check_lot" "check_lot" (defArgs s_check_lot) (defBody s_check_lot) (defScope s_check_lot) [] [] (fa 16) (fdd 16)
  G16 : mg "check_lot" = some (.ref (fa 16))
  F17 : FunD K "given_lot" "given_lot" (defArgs s_given_lot) (defBody s_given_lot) (defScope s_given_lot) [] [] (fa 17) (fdd 17)
  G17 : mg "given_lot" = some (.ref (fa 17))
  F18 : FunD K "turned_atoms" "turned_atoms" (defArgs s_turned_atoms) (defBody s_turned_atoms) (defScope s_turned_atoms) [] [] (fa 18) (fdd 18)
  G18 : mg "turned_atoms" = some (.ref (fa 18))
  F19 : FunD K "is_names" "is_names" (defArgs s_is_names) (defBody s_is_names) (defScope s_is_names) [] [] (fa 19) (fdd 19)
  G19 : mg "is_names" = some (.ref (fa 19))
  F20 : FunD K "_law_hand" "_law_hand" (defArgs s__law_hand) (defBody s__law_hand) (defScope s__law_hand) [] [] (fa 20) (fdd 20)
  G20 : mg "_law_hand" = some (.ref (fa 20))
  F21 : FunD K "_law_draw" "_law_draw" (defArgs s__law_draw) (defBody s__law_draw) (defScope s__law_draw) [] [] (fa 21) (fdd 21)
  G21 : mg "_law_draw" = some (.ref (fa 21))
  F22 : FunD K "_law_any" "_law_any" (defArgs s__law_any) (defBody s__law_any) (defScope s__law_any) [] [] (fa 22) (fdd 22)
  G22 : mg "_law_any" = some (.ref (fa 22))
  F23 : FunD K "_law_mixed" "_law_mixed" (defArgs s__law_mixed) (defBody s__law_mixed) (defScope s__law_mixed) [] [] (fa 23) (fdd 23)
  G23 : mg "_law_mixed" = some (.ref (fa 23))
  F24 : FunD K "_law_same" "_law_same" (defArgs s__law_same) (defBody s__law_same) (defScope s__law_same) [] [] (fa 24) (fdd 24)
  G24 : mg "_law_same" = some (.ref (fa 24))
  F25 : FunD K "_law_clause" "_law_clause" (defArgs s__law_clause) (defBody s__law_clause) (defScope s__law_clause) [] [] (fa 25) (fdd 25)
  G25 : mg "_law_clause" = some (.ref (fa 25))
  F26 : FunD K "_law_clauses" "_law_clauses" (defArgs s__law_clauses) (defBody s__law_clauses) (defScope s__law_clauses) [] [] (fa 26) (fdd 26)
  G26 : mg "_law_clauses" = some (.ref (fa 26))
  F27 : FunD K "_law_many" "_law_many" (defArgs s__law_many) (defBody s__law_many) (defScope s__law_many) [] [] (fa 27) (fdd 27)
  G27 : mg "_law_many" = some (.ref (fa 27))
  F28 : FunD K "_law_atoms_of" "_law_atoms_of" (defArgs s__law_atoms_of) (defBody s__law_atoms_of) (defScope s__law_atoms_of) [] [] (fa 28) (fdd 28)
  G28 : mg "_law_atoms_of" = some (.ref (fa 28))
  F29 : FunD K "_law_worlds" "_law_worlds" (defArgs s__law_worlds) (defBody s__law_worlds) (defScope s__law_worlds) [] [] (fa 29) (fdd 29)
  G29 : mg "_law_worlds" = some (.ref (fa 29))
  F30 : FunD K "_law_breaks" "_law_breaks" (defArgs s__law_breaks) (defBody s__law_breaks) (defScope s__law_breaks) [] [] (fa 30) (fdd 30)
  G30 : mg "_law_breaks" = some (.ref (fa 30))
  F31 : FunD K "_law_models" "_law_models" (defArgs s__law_models) (defBody s__law_models) (defScope s__law_models) [] [] (fa 31) (fdd 31)
  G31 : mg "_law_models" = some (.ref (fa 31))
  F32 : FunD K "_law_joined" "_law_joined" (defArgs s__law_joined) (defBody s__law_joined) (defScope s__law_joined) [] [] (fa 32) (fdd 32)
  G32 : mg "_law_joined" = some (.ref (fa 32))
  F33 : FunD K "_law_has_all" "_law_has_all" (defArgs s__law_has_all) (defBody s__law_has_all) (defScope s__law_has_all) [] [] (fa 33) (fdd 33)
  G33 : mg "_law_has_all" = some (.ref (fa 33))
  F34 : FunD K "_law_thin" "_law_thin" (defArgs s__law_thin) (defBody s__law_thin) (defScope s__law_thin) [] [] (fa 34) (fdd 34)
  G34 : mg "_law_thin" = some (.ref (fa 34))
  F35 : FunD K "_law_left" "_law_left" (defArgs s__law_left) (defBody s__law_left) (defScope s__law_left) [] [] (fa 35) (fdd 35)
  G35 : mg "_law_left" = some (.ref (fa 35))
  F36 : FunD K "_law_is_lot_right" "_law_is_lot_right" (defArgs s__law_is_lot_right) (defBody s__law_is_lot_right) (defScope s__law_is_lot_right) [] [] (fa 36) (fdd 36)
  G36 : mg "_law_is_lot_right" = some (.ref (fa 36))
  F37 : FunD K "_law_is_turned_right" "_law_is_turned_right" (defArgs s__law_is_turned_right) (defBody s__law_is_turned_right) (defScope s__law_is_turned_right) [] [] (fa 37) (fdd 37)
  G37 : mg "_law_is_turned_right" = some (.ref (fa 37))
  F38 : FunD K "law" "law" (defArgs s_law) (defBody s_law) (defScope s_law) [] [] (fa 38) (fdd 38)
  G38 : mg "law" = some (.ref (fa 38))
  B_ValueError : mg "ValueError" = none
  B_abs : mg "abs" = none
  B_all : mg "all" = none
  B_any : mg "any" = none
  B_bool : mg "bool" = none
  B_enumerate : mg "enumerate" = none
  B_int : mg "int" = none
  B_isinstance : mg "isinstance" = none
  B_len : mg "len" = none
  B_list : mg "list" = none
  B_max : mg "max" = none
  B_range : mg "range" = none
  B_sorted : mg "sorted" = none
  B_super : mg "super" = none
  B_tuple : mg "tuple" = none
  B_zip : mg "zip" = none
  I_MOST_ATOMS : ∃ t, mg "MOST_ATOMS" = some (.int 12 t)
  I_MOST_CLAUSES : ∃ t, mg "MOST_CLAUSES" = some (.int 80 t)
theorem sc_is_integer : FnScope ["thing"] ["thing"] (defScope s_is_integer) := ⟨rfl, rfl, rfl, by decide +kernel, rfl, by decide +kernel, by decide +kernel⟩
theorem b_is_integer (h : Hs K mg base fa fdd tb) : Binds K (fdd 0) ["thing"] [] := h.F0.bindsN fun _ _ _ _ _ _ us hl => match us, hl with
  | [_], _ => rfl
def m_is_integer : M Fl :=
    (sRet (mAndV (mT (m1 (fIsi ["int", "bool"]) (mV 0))) (mNotV (mT (m1 (fIsi ["bool"]) (mV 0))))))
def g_is_integer : List D → FR := runD [.pl] 0 m_is_integer
theorem ok_is_integer (h : Hs K mg base fa fdd tb) : FnOk P w K mg base (L2.CX P w) 1 (fa 0) (fdd 0) ["thing"] (spV K cn tb [.pl] g_is_integer) :=
  fn_okC h.F0 sc_is_integer rfl (by decide) fun cdv A outer s H E F hcd hr hcn htb tk => by
    subst hcn htb
    have sc := sc_is_integer
    exact (qss_one (qs_ret (qe_and (qe_isi isi_int rfl h.B_isinstance rfl h.B_int rfl (qv 0)) (qe_one (qe_not (qe_isi isi_bool rfl h.B_isinstance rfl h.B_bool rfl (qv 0)))))))
theorem sc_two_to : FnScope ["exponent"] ["exponent"] (defScope s_two_to) := ⟨rfl, rfl, rfl, by decide +kernel, rfl, by decide +kernel, by decide +kernel⟩
theorem b_two_to (h : Hs K mg base fa fdd tb) : Binds K (fdd 2) ["exponent"] [] := h.F2.bindsN fun _ _ _ _ _ _ us hl => match us, hl with
  | [_], _ => rfl
def m_two_to : M Fl :=
    (sRet (m2 fShl (mC (.int 1)) (mV 0)))
def g_two_to : List D → FR := runD [.pl] 0 m_two_to
theorem ok_two_to (h : Hs K mg base fa fdd tb) : FnOk P w K mg base (L2.CX P w) 1 (fa 2) (fdd 2) ["exponent"] (spV K cn tb [.pl] g_two_to) :=
  fn_okC h.F2 sc_two_to rfl (by decide) fun cdv A outer s H E F hcd hr hcn htb tk => by
    subst hcn htb
    have sc := sc_two_to
    exact (qss_one (qs_ret (qe_op op_shl p_shl qe_int (qv 0))))
theorem sc_bits_of : FnScope ["number", "many", "found", "turn"] ["number", "many"] (defScope s_bits_of) := ⟨rfl, rfl, rfl, by decide +kernel, rfl, by decide +kernel, by decide +kernel⟩
theorem b_bits_of (h : Hs K mg base fa fdd tb) : Binds K (fdd 3) ["number", "many"] [] := h.F3.bindsN fun _ _ _ _ _ _ us hl => match us, hl with
  | [_, _], _ => rfl
def m_bits_of_1 : M Fl :=
    (sSeq (sDrop (meApp 2 (mK (m2 fMod (mV 0) (mC (.int 2))))))
    (sSet 0 (m2 fDiv (mV 0) (mC (.int 2)))))
def m_bits_of : M Fl :=
    (sSeq (sSet 2 (mLst kNil))
    (sSeq (sFor (iFn rng1 (aCons (mV 1) aNil)) (tName 3) m_bits_of_1)
    (sRet (mB (f1 fTuple) (aCons (m1 fRev (mV 2)) aNil)))))
def g_bits_of : List D → FR := runD [.pl, .pl] 2 m_bits_of
theorem ok_bits_of (h : Hs K mg base fa fdd tb) : FnOk P w K mg base (L2.CX P w) 1 (fa 3) (fdd 3) ["number", "many"] (spV K cn tb [.pl, .pl] g_bits_of) :=
  fn_okC h.F3 sc_bits_of rfl (by decide) fun cdv A outer s H E F hcd hr hcn htb tk => by
    subst hcn htb
    have sc := sc_bits_of
    exact (qss_cons (qs_set (i := 2) sc.nd rfl loc_of (qe_lst qk_nil))
    (qss_cons (qs_for (passes_of rfl) rfl (qi_range1 rfl h.B_range (qa_cons (qv 1) qa_nil)) (qg_name sc.nd rfl loc_of) (qss_cons (qs_expr (qe_app (i := 2) rfl (by first | exact Or.inl rfl | exact Or.inr (Or.inl rfl) | exact Or.inr (Or.inr rfl)) (qe_op op_mod p_mod (qv 0) qe_int)))
    (qss_one (qs_set (i := 0) sc.nd rfl loc_of (qe_op op_fdivW p_div (qv 0) qe_int)))))
    (qss_one (qs_ret (qe_callTy call_tuple_of p_tuple rfl h.B_tuple rfl (qa_cons (qe_rev (qv 2)) qa_nil))))))
theorem sc_many_in : FnScope ["clauses", "clause"] ["clauses"] (defScope s_many_in) := ⟨rfl, rfl, rfl, by decide +kernel, rfl, by decide +kernel, by decide +kernel⟩
theorem b_many_in (h : Hs K mg base fa fdd tb) : Binds K (fdd 7) ["clauses"] [] := h.F7.bindsN fun _ _ _ _ _ _ us hl => match us, hl with
  | [_], _ => rfl
def m_many_in_1 : M Bool :=
    (mT (m2 fGt (mB (f1 fLen) (aCons (mV 1) aNil)) (mC (.int 0))))
def m_many_in_2 : M Op :=
    (mB (f1 fAbs) (aCons (m2 fIx (mV 1) (m1 fNeg (mC (.int 1)))) aNil))
def m_many_in : M Fl :=
    (sRet (mB fMax (aCons (m2 fAdd (mLst (kCons (mC (.int 0)) kNil)) (mLc (iSeqM (mV 0)) (tName 1) m_many_in_1 m_many_in_2 [1])) aNil)))
def g_many_in : List D → FR := runD [.pl] 1 m_many_in
theorem ok_many_in (h : Hs K mg base fa fdd tb) : FnOk P w K mg base (L2.CX P w) 1 (fa 7) (fdd 7) ["clauses"] (spV K cn tb [.pl] g_many_in) :=
  fn_okC h.F7 sc_many_in rfl (by decide) fun cdv A outer s H E F hcd hr hcn htb tk => by
    subst hcn htb
    have sc := sc_many_in
    exact (qss_one (qs_ret (qe_callB (c_max rfl) p_max rfl h.B_max rfl (qa_cons (qe_op o_add p_add (qe_lst (qk_cons qe_int qk_nil)) (qe_lc (own := [("clause", 1)]) rfl sc.nd (qi_seq (qv 0)) (blkOk_by (by kernel_rfl)) (by decide) (fun _ _ _ _ _ => (qg_name sc.nd rfl loc_of)) (fun _ _ _ _ _ => (qts_one (qt_cmp op_gt p_gt (qe_callB c_len p_len rfl h.B_len rfl (qa_cons (qv 1) qa_nil)) qe_int (nomark _)))) (fun _ _ _ _ _ => (qe_callB call_abs p_abs rfl h.B_abs rfl (qa_cons (qe_ix ix_seq p_ix (qv 1) (qe_un un_neg p_neg qe_int) (fun _ _ => rfl)) qa_nil))))) qa_nil))))
theorem sc_holds_in : FnScope ["clause", "world", "one"] ["clause", "world"] (defScope s_holds_in) := ⟨rfl, rfl, rfl, by decide +kernel, rfl, by decide +kernel, by decide +kernel⟩
theorem b_holds_in (h : Hs K mg base fa fdd tb) : Binds K (fdd 8) ["clause", "world"] [] := h.F8.bindsN fun _ _ _ _ _ _ us hl => match us, hl with
  | [_, _], _ => rfl
def m_holds_in_1 : M Op :=
    (m2 fEq (m2 fIx (mV 1) (m2 fSub (mB (f1 fAbs) (aCons (mV 2) aNil)) (mC (.int 1)))) (mB (f1 fInt) (aCons (m2 fGt (mV 2) (mC (.int 0))) aNil)))
def m_holds_in : M Fl :=
    (sRet (mB (f1 fAny) (aCons (mLc (iSeqM (mV 0)) (tName 2) tYesM m_holds_in_1 [2]) aNil)))
def g_holds_in : List D → FR := runD [.pl, .pl] 1 m_holds_in
theorem ok_holds_in (h : Hs K mg base fa fdd tb) : FnOk P w K mg base (L2.CX P w) 1 (fa 8) (fdd 8) ["clause", "world"] (spV K cn tb [.pl, .pl] g_holds_in) :=
  fn_okC h.F8 sc_holds_in rfl (by decide) fun cdv A outer s H E F hcd hr hcn htb tk => by
    subst hcn htb
    have sc := sc_holds_in
    exact (qss_one (qs_ret (qe_callB (cr_any rfl) p_any rfl h.B_any rfl (qa_cons (qe_lc (own := [("one", 2)]) rfl sc.nd (qi_seq (qv 0)) (blkOk_by (by kernel_rfl)) (by decide) (fun _ _ _ _ _ => (qg_name sc.nd rfl loc_of)) (fun _ _ _ _ _ => qts_nil) (fun _ _ _ _ _ => (qe_cmp (op_eqD hr.units) p_eq (qe_ix ix_seq p_ix (qv 1) (qe_op op_sub p_sub (qe_callB call_abs p_abs rfl h.B_abs rfl (qa_cons (qv 2) qa_nil)) qe_int) (fun _ _ => rfl)) (qe_callTy call_int1 p_int rfl h.B_int rfl (qa_cons (qe_cmp op_gt p_gt (qv 2) qe_int (nomark _)) qa_nil)) (nomark _)))) qa_nil))))
theorem sc_is_part : FnScope ["one", "other", "part"] ["one", "other"] (defScope s_is_part) := ⟨rfl, rfl, rfl, by decide +kernel, rfl, by decide +kernel, by decide +kernel⟩
theorem b_is_part (h : Hs K mg base fa fdd tb) : Binds K (fdd 12) ["one", "other"] [] := h.F12.bindsN fun _ _ _ _ _ _ us hl => match us, hl with
  | [_, _], _ => rfl
def m_is_part_1 : M Op :=
    (m2 fIn (mV 2) (mV 1))
def m_is_part : M Fl :=
    (sRet (mB (f1 fAll) (aCons (mLc (iSeqM (mV 0)) (tName 2) tYesM m_is_part_1 [2]) aNil)))
def g_is_part : List D → FR := runD [.pl, .pl] 1 m_is_part
theorem ok_is_part (h : Hs K mg base fa fdd tb) : FnOk P w K mg base (L2.CX P w) 1 (fa 12) (fdd 12) ["one", "other"] (spV K cn tb [.pl, .pl] g_is_part) :=
  fn_okC h.F12 sc_is_part rfl (by decide) fun cdv A outer s H E F hcd hr hcn htb tk => by
    subst hcn htb
    have sc := sc_is_part
    exact (qss_one (qs_ret (qe_callB (cr_all rfl) p_all rfl h.B_all rfl (qa_cons (qe_lc (own := [("part", 2)]) rfl sc.nd (qi_seq (qv 0)) (blkOk_by (by kernel_rfl)) (by decide) (fun _ _ _ _ _ => (qg_name sc.nd rfl loc_of)) (fun _ _ _ _ _ => qts_nil) (fun _ _ _ _ _ => (qe_cmp (o_in (u65 hr)) p_in (qv 2) (qv 1) rfl))) qa_nil))))
theorem sc_left_by : FnScope ["clauses", "literals", "found", "clause", "one"] ["clauses", "literals"] (defScope s_left_by) := ⟨rfl, rfl, rfl, by decide +kernel, rfl, by decide +kernel, by decide +kernel⟩
theorem b_left_by (h : Hs K mg base fa fdd tb) : Binds K (fdd 14) ["clauses", "literals"] [] := h.F14.bindsN fun _ _ _ _ _ _ us hl => match us, hl with
  | [_, _], _ => rfl
def m_left_by_1 : M Op :=
    (m2 fIn (mV 4) (mV 3))
def m_left_by_2 : M Bool :=
    (mT (m2 fNotIn (m1 fNeg (mV 4)) (mV 1)))
def m_left_by_3 : M Op :=
    (mV 4)
def m_left_by_4 : M Fl :=
    (sIf (mNot (mT (mB (f1 fAny) (aCons (mLc (iSeqM (mV 1)) (tName 4) tYesM m_left_by_1 [4]) aNil)))) (sDrop (meApp 2 (mK (mB (f1 fTuple) (aCons (mLc (iSeqM (mV 3)) (tName 4) m_left_by_2 m_left_by_3 [4]) aNil))))) sNx)
def m_left_by : M Fl :=
    (sSeq (sSet 2 (mLst kNil))
    (sSeq (sFor (iSeqM (mV 0)) (tName 3) m_left_by_4)
    (sRet (mB (f1 fTuple) (aCons (mV 2) aNil)))))
def g_left_by : List D → FR := runD [.pl, .pl] 3 m_left_by
theorem ok_left_by (h : Hs K mg base fa fdd tb) : FnOk P w K mg base (L2.CX P w) 1 (fa 14) (fdd 14) ["clauses", "literals"] (spV K cn tb [.pl, .pl] g_left_by) :=
  fn_okC h.F14 sc_left_by rfl (by decide) fun cdv A outer s H E F hcd hr hcn htb tk => by
    subst hcn htb
    have sc := sc_left_by
    exact (qss_cons (qs_set (i := 2) sc.nd rfl loc_of (qe_lst qk_nil))
    (qss_cons (qs_for (passes_of rfl) rfl (qi_seq (qv 0)) (qg_name sc.nd rfl loc_of) (qss_one (qs_if (qt_not (qt_val (qe_callB (cr_any rfl) p_any rfl h.B_any rfl (qa_cons (qe_lc (own := [("one", 4)]) rfl sc.nd (qi_seq (qv 1)) (blkOk_by (by kernel_rfl)) (by decide) (fun _ _ _ _ _ => (qg_name sc.nd rfl loc_of)) (fun _ _ _ _ _ => qts_nil) (fun _ _ _ _ _ => (qe_cmp (o_in (u65 hr)) p_in (qv 4) (qv 3) rfl))) qa_nil)))) (qss_one (qs_expr (qe_app (i := 2) rfl (by first | exact Or.inl rfl | exact Or.inr (Or.inl rfl) | exact Or.inr (Or.inr rfl)) (qe_callTy call_tuple_of p_tuple rfl h.B_tuple rfl (qa_cons (qe_lc (own := [("one", 4)]) rfl sc.nd (qi_seq (qv 3)) (blkOk_by (by kernel_rfl)) (by decide) (fun _ _ _ _ _ => (qg_name sc.nd rfl loc_of)) (fun _ _ _ _ _ => (qts_one (qt_cmp (o_notIn (u65 hr)) p_notIn (qe_un un_neg p_neg (qv 4)) (qv 1) rfl))) (fun _ _ _ _ _ => (qv 4))) qa_nil))))) qss_nil)))
    (qss_one (qs_ret (qe_callTy call_tuple_of p_tuple rfl h.B_tuple rfl (qa_cons (qv 2) qa_nil))))))
theorem sc__law_hand : FnScope ["script", "cells", "cell"] ["script"] (defScope s__law_hand) := ⟨rfl, rfl, rfl, by decide +kernel, rfl, by decide +kernel, by decide +kernel⟩
theorem b__law_hand (h : Hs K mg base fa fdd tb) : Binds K (fdd 20) ["script"] [] := h.F20.bindsN fun _ _ _ _ _ _ us hl => match us, hl with
  | [_], _ => rfl
def m__law_hand_1 : M Op :=
    (mB (f1 fAbs) (aCons (mB (f1 fInt) (aCons (mV 2) aNil)) aNil))
def m__law_hand : M Fl :=
    (sSeq (sSet 1 (mLc (iSeqM (mSl fSl (mV 0) bNo (bAt (mC (.int 63))))) (tName 2) tYesM m__law_hand_1 [2]))
    (sRet (mLst (kCons (mV 1) (kCons (mC (.int 0)) (kCons (mC (.int 0)) (kCons (m2 fAdd (mC (.int 971)) (m2 fMul (mC (.int 61)) (mB (f1 fLen) (aCons (mV 1) aNil)))) (kCons (mC (.int 0)) kNil))))))))
def g__law_hand : List D → FR := runD [.pl] 2 m__law_hand
theorem ok__law_hand (h : Hs K mg base fa fdd tb) : FnOk P w K mg base (L2.CX P w) 1 (fa 20) (fdd 20) ["script"] (spV K cn tb [.pl] g__law_hand) :=
  fn_okC h.F20 sc__law_hand rfl (by decide) fun cdv A outer s H E F hcd hr hcn htb tk => by
    subst hcn htb
    have sc := sc__law_hand
    exact (qss_cons (qs_setLc (i := 1) (own := [("cell", 2)]) rfl sc.nd rfl rfl rfl (qi_seq (qe_sl s_sl p_sl (qv 0) qo_none (qo_some qe_int))) (blkOk_by (by kernel_rfl)) (by decide) (fun _ _ _ _ _ => (qg_name sc.nd rfl loc_of)) (fun _ _ _ _ _ => qts_nil) (fun _ _ _ _ _ => (qe_callB call_abs p_abs rfl h.B_abs rfl (qa_cons (qe_callTy call_int1 p_int rfl h.B_int rfl (qa_cons (qv 2) qa_nil)) qa_nil))))
    (qss_one (qs_ret (qe_lst (qk_cons (qv 1) (qk_cons qe_int (qk_cons qe_int (qk_cons (qe_op o_add p_add qe_int (qe_op op_mulX p_mul qe_int (qe_callB c_len p_len rfl h.B_len rfl (qa_cons (qv 1) qa_nil)))) (qk_cons qe_int qk_nil)))))))))
theorem sc__law_draw : FnScope ["hand", "many", "number", "cell", "digit"] ["hand", "many"] (defScope s__law_draw) := ⟨rfl, rfl, rfl, by decide +kernel, rfl, by decide +kernel, by decide +kernel⟩
theorem b__law_draw (h : Hs K mg base fa fdd tb) : Binds K (fdd 21) ["hand", "many"] [] := h.F21.bindsN fun _ _ _ _ _ _ us hl => match us, hl with
  | [_, _], _ => rfl
def m__law_draw : M Fl :=
    (sSeq (sIf (mAnd (mT (m2 fEq (m2 fIx (mV 0) (mC (.int 2))) (mC (.int 0)))) (mT (m2 fLt (m2 fIx (mV 0) (mC (.int 1))) (mB (f1 fLen) (aCons (m2 fIx (mV 0) (mC (.int 0))) aNil))))) (sSeq (sSet 3 (m2 fIx (m2 fIx (mV 0) (mC (.int 0))) (m2 fIx (mV 0) (mC (.int 1)))))
    (sSeq (sSetIx 0 (mK (m2 fAdd (m2 fIx (mV 0) (mC (.int 1))) (mC (.int 1)))) (mC (.int 1)))
    (sSeq (sSetIx 0 (mK (m2 fMod (mB (f1 fInt) (aCons (m2 fAdd (m2 fAdd (m2 fMul (m2 fIx (mV 0) (mC (.int 3))) (mC (.int 69621))) (m2 fMul (mV 3) (mC (.int 48271)))) (mC (.int 17))) aNil)) (mC (.int 2147483629)))) (mC (.int 3)))
    (sIf (mT (m2 fGe (mV 3) (m2 fPow (mC (.int 10)) (mC (.int 18))))) (sSetIx 0 (mK (mV 3)) (mC (.int 2))) sNx)))) sNx)
    (sSeq (sIf (mT (m2 fGt (m2 fIx (mV 0) (mC (.int 2))) (mC (.int 0)))) (sSeq (sSet 4 (m2 fMod (mB (f1 fInt) (aCons (m2 fIx (mV 0) (mC (.int 2))) aNil)) (mV 1)))
    (sSeq (sSetIx 0 (mK (m2 fDiv (m2 fIx (mV 0) (mC (.int 2))) (mV 1))) (mC (.int 2)))
    (sRet (mV 4)))) sNx)
    (sSeq (sSetIx 0 (mK (m2 fAdd (m2 fIx (mV 0) (mC (.int 4))) (mC (.int 1)))) (mC (.int 4)))
    (sSeq (sSet 2 (m2 fMod (mB (f1 fInt) (aCons (m2 fMul (mB (f1 fInt) (aCons (m2 fAdd (m2 fIx (mV 0) (mC (.int 3))) (m2 fMul (mC (.int 7919)) (m2 fIx (mV 0) (mC (.int 4))))) aNil)) (mC (.int 40692))) aNil)) (mC (.int 2147483647))))
    (sSeq (sSet 2 (m2 fMod (mB (f1 fInt) (aCons (m2 fMul (mV 2) (m2 fAdd (m2 fDiv (mV 2) (mC (.int 1009))) (mC (.int 69621)))) aNil)) (mC (.int 2147483647))))
    (sSeq (sSet 2 (m2 fMod (mB (f1 fInt) (aCons (m2 fMul (mV 2) (m2 fAdd (m2 fDiv (mV 2) (mC (.int 2003))) (mC (.int 40014)))) aNil)) (mC (.int 2147483563))))
    (sRet (m2 fMod (mB (f1 fInt) (aCons (m2 fDiv (mV 2) (mC (.int 16))) aNil)) (mV 1)))))))))
def g__law_draw : List D → FR := runD [.mu, .pl] 3 m__law_draw
theorem ok__law_draw (h : Hs K mg base fa fdd tb) : FnOk P w K mg base (L2.CX P w) 1 (fa 21) (fdd 21) ["hand", "many"] (spV K cn tb [.mu, .pl] g__law_draw) :=
  fn_okC h.F21 sc__law_draw rfl (by decide) fun cdv A outer s H E F hcd hr hcn htb tk => by
    subst hcn htb
    have sc := sc__law_draw
    exact (qss_cons (qs_if (qt_w (qw_and (qt_cmp (op_eqD hr.units) p_eq (qe_ix ix_seq p_ix (qv 0) qe_int (fun _ _ => rfl)) qe_int (nomark _)) (qw_and1 (qt_cmp op_lt p_lt (qe_ix ix_seq p_ix (qv 0) qe_int (fun _ _ => rfl)) (qe_callB c_len p_len rfl h.B_len rfl (qa_cons (qe_ix ix_seq p_ix (qv 0) qe_int (fun _ _ => rfl)) qa_nil)) (nomark _))))) (qss_cons (qs_set (i := 3) sc.nd rfl loc_of (qe_ix ix_seq p_ix (qe_ix ix_seq p_ix (qv 0) qe_int (fun _ _ => rfl)) (qe_ix ix_seq p_ix (qv 0) qe_int (fun _ _ => rfl)) (fun _ _ => rfl)))
    (qss_cons (qs_setIx (i := 0) rfl (by first | exact Or.inl rfl | exact Or.inr (Or.inl rfl) | exact Or.inr (Or.inr rfl)) (qe_op o_add p_add (qe_ix ix_seq p_ix (qv 0) qe_int (fun _ _ => rfl)) qe_int) qe_int)
    (qss_cons (qs_setIx (i := 0) rfl (by first | exact Or.inl rfl | exact Or.inr (Or.inl rfl) | exact Or.inr (Or.inr rfl)) (qe_op op_mod p_mod (qe_callTy call_int1 p_int rfl h.B_int rfl (qa_cons (qe_op o_add p_add (qe_op o_add p_add (qe_op op_mulX p_mul (qe_ix ix_seq p_ix (qv 0) qe_int (fun _ _ => rfl)) qe_int) (qe_op op_mulX p_mul (qv 3) qe_int)) qe_int) qa_nil)) qe_int) qe_int)
    (qss_one (qs_if (qt_cmp op_ge p_ge (qv 3) (qe_op op_pow p_pow qe_int qe_int) (nomark _)) (qss_one (qs_setIx (i := 0) rfl (by first | exact Or.inl rfl | exact Or.inr (Or.inl rfl) | exact Or.inr (Or.inr rfl)) (qv 3) qe_int)) qss_nil))))) qss_nil)
    (qss_cons (qs_if (qt_cmp op_gt p_gt (qe_ix ix_seq p_ix (qv 0) qe_int (fun _ _ => rfl)) qe_int (nomark _)) (qss_cons (qs_set (i := 4) sc.nd rfl loc_of (qe_op op_mod p_mod (qe_callTy call_int1 p_int rfl h.B_int rfl (qa_cons (qe_ix ix_seq p_ix (qv 0) qe_int (fun _ _ => rfl)) qa_nil)) (qv 1)))
    (qss_cons (qs_setIx (i := 0) rfl (by first | exact Or.inl rfl | exact Or.inr (Or.inl rfl) | exact Or.inr (Or.inr rfl)) (qe_op op_fdivW p_div (qe_ix ix_seq p_ix (qv 0) qe_int (fun _ _ => rfl)) (qv 1)) qe_int)
    (qss_one (qs_ret (qv 4))))) qss_nil)
    (qss_cons (qs_setIx (i := 0) rfl (by first | exact Or.inl rfl | exact Or.inr (Or.inl rfl) | exact Or.inr (Or.inr rfl)) (qe_op o_add p_add (qe_ix ix_seq p_ix (qv 0) qe_int (fun _ _ => rfl)) qe_int) qe_int)
    (qss_cons (qs_set (i := 2) sc.nd rfl loc_of (qe_op op_mod p_mod (qe_callTy call_int1 p_int rfl h.B_int rfl (qa_cons (qe_op op_mulX p_mul (qe_callTy call_int1 p_int rfl h.B_int rfl (qa_cons (qe_op o_add p_add (qe_ix ix_seq p_ix (qv 0) qe_int (fun _ _ => rfl)) (qe_op op_mulX p_mul qe_int (qe_ix ix_seq p_ix (qv 0) qe_int (fun _ _ => rfl)))) qa_nil)) qe_int) qa_nil)) qe_int))
    (qss_cons (qs_set (i := 2) sc.nd rfl loc_of (qe_op op_mod p_mod (qe_callTy call_int1 p_int rfl h.B_int rfl (qa_cons (qe_op op_mulX p_mul (qv 2) (qe_op o_add p_add (qe_op op_fdivW p_div (qv 2) qe_int) qe_int)) qa_nil)) qe_int))
    (qss_cons (qs_set (i := 2) sc.nd rfl loc_of (qe_op op_mod p_mod (qe_callTy call_int1 p_int rfl h.B_int rfl (qa_cons (qe_op op_mulX p_mul (qv 2) (qe_op o_add p_add (qe_op op_fdivW p_div (qv 2) qe_int) qe_int)) qa_nil)) qe_int))
    (qss_one (qs_ret (qe_op op_mod p_mod (qe_callTy call_int1 p_int rfl h.B_int rfl (qa_cons (qe_op op_fdivW p_div (qv 2) qe_int) qa_nil)) (qv 1))))))))))
theorem sc__law_atoms_of : FnScope ["lot_row", "found", "clause", "one"] ["lot_row"] (defScope s__law_atoms_of) := ⟨rfl, rfl, rfl, by decide +kernel, rfl, by decide +kernel, by decide +kernel⟩
theorem b__law_atoms_of (h : Hs K mg base fa fdd tb) : Binds K (fdd 28) ["lot_row"] [] := h.F28.bindsN fun _ _ _ _ _ _ us hl => match us, hl with
  | [_], _ => rfl
def m__law_atoms_of_1 : M Op :=
    (mB (f1 fAbs) (aCons (mV 3) aNil))
def m__law_atoms_of_2 : M Fl :=
    (sDrop (meExt 1 (mLc (iSeqM (mV 2)) (tName 3) tYesM m__law_atoms_of_1 [3])))
def m__law_atoms_of : M Fl :=
    (sSeq (sSet 1 (mLst kNil))
    (sSeq (sFor (iSeqM (mV 0)) (tName 2) m__law_atoms_of_2)
    (sRet (mV 1))))
def g__law_atoms_of : List D → FR := runD [.pl] 3 m__law_atoms_of
theorem ok__law_atoms_of (h : Hs K mg base fa fdd tb) : FnOk P w K mg base (L2.CX P w) 1 (fa 28) (fdd 28) ["lot_row"] (spV K cn tb [.pl] g__law_atoms_of) :=
  fn_okC h.F28 sc__law_atoms_of rfl (by decide) fun cdv A outer s H E F hcd hr hcn htb tk => by
    subst hcn htb
    have sc := sc__law_atoms_of
    exact (qss_cons (qs_set (i := 1) sc.nd rfl loc_of (qe_lst qk_nil))
    (qss_cons (qs_for (passes_of rfl) rfl (qi_seq (qv 0)) (qg_name sc.nd rfl loc_of) (qss_one (qs_expr (qe_ext (i := 1) rfl (by first | exact Or.inl rfl | exact Or.inr (Or.inl rfl) | exact Or.inr (Or.inr rfl)) (qe_lc (own := [("one", 3)]) rfl sc.nd (qi_seq (qv 2)) (blkOk_by (by kernel_rfl)) (by decide) (fun _ _ _ _ _ => (qg_name sc.nd rfl loc_of)) (fun _ _ _ _ _ => qts_nil) (fun _ _ _ _ _ => (qe_callB call_abs p_abs rfl h.B_abs rfl (qa_cons (qv 3) qa_nil))))))))
    (qss_one (qs_ret (qv 1)))))
theorem sc__law_worlds : FnScope ["many", "found", "lap", "longer", "world"] ["many"] (defScope s__law_worlds) := ⟨rfl, rfl, rfl, by decide +kernel, rfl, by decide +kernel, by decide +kernel⟩
theorem b__law_worlds (h : Hs K mg base fa fdd tb) : Binds K (fdd 29) ["many"] [] := h.F29.bindsN fun _ _ _ _ _ _ us hl => match us, hl with
  | [_], _ => rfl
def m__law_worlds_1 : M Fl :=
    (sDrop (meExt 3 (mLst (kCons (m2 fAdd (mV 4) (mTup (kCons (mC (.int 0)) kNil))) (kCons (m2 fAdd (mV 4) (mTup (kCons (mC (.int 1)) kNil))) kNil)))))
def m__law_worlds_2 : M Fl :=
    (sSeq (sSet 3 (mLst kNil))
    (sSeq (sFor (iSeqM (mV 1)) (tName 4) m__law_worlds_1)
    (sSet 1 (mV 3))))
def m__law_worlds : M Fl :=
    (sSeq (sSet 1 (mLst (kCons (mTup kNil) kNil)))
    (sSeq (sFor (iFn rng1 (aCons (mV 0) aNil)) (tName 2) m__law_worlds_2)
    (sRet (mV 1))))
def g__law_worlds : List D → FR := runD [.pl] 4 m__law_worlds
theorem ok__law_worlds (h : Hs K mg base fa fdd tb) : FnOk P w K mg base (L2.CX P w) 1 (fa 29) (fdd 29) ["many"] (spV K cn tb [.pl] g__law_worlds) :=
  fn_okC h.F29 sc__law_worlds rfl (by decide) fun cdv A outer s H E F hcd hr hcn htb tk => by
    subst hcn htb
    have sc := sc__law_worlds
    exact (qss_cons (qs_set (i := 1) sc.nd rfl loc_of (qe_lst (qk_cons (qe_tup qk_nil) qk_nil)))
    (qss_cons (qs_for (passes_of rfl) rfl (qi_range1 rfl h.B_range (qa_cons (qv 0) qa_nil)) (qg_name sc.nd rfl loc_of) (qss_cons (qs_set (i := 3) sc.nd rfl loc_of (qe_lst qk_nil))
    (qss_cons (qs_for (passes_of rfl) rfl (qi_seq (qv 1)) (qg_name sc.nd rfl loc_of) (qss_one (qs_expr (qe_ext (i := 3) rfl (by first | exact Or.inl rfl | exact Or.inr (Or.inl rfl) | exact Or.inr (Or.inr rfl)) (qe_lst (qk_cons (qe_op o_add p_add (qv 4) (qe_tup (qk_cons qe_int qk_nil))) (qk_cons (qe_op o_add p_add (qv 4) (qe_tup (qk_cons qe_int qk_nil))) qk_nil)))))))
    (qss_one (qs_set (i := 1) sc.nd rfl loc_of (qv 3))))))
    (qss_one (qs_ret (qv 1)))))
theorem sc__law_breaks : FnScope ["clause", "world", "one"] ["clause", "world"] (defScope s__law_breaks) := ⟨rfl, rfl, rfl, by decide +kernel, rfl, by decide +kernel, by decide +kernel⟩
theorem b__law_breaks (h : Hs K mg base fa fdd tb) : Binds K (fdd 30) ["clause", "world"] [] := h.F30.bindsN fun _ _ _ _ _ _ us hl => match us, hl with
  | [_, _], _ => rfl
def m__law_breaks_1 : M Op :=
    (m2 fEq (m2 fIx (mV 1) (m2 fSub (mB (f1 fAbs) (aCons (mV 2) aNil)) (mC (.int 1)))) (mB (f1 fInt) (aCons (m2 fGt (mV 2) (mC (.int 0))) aNil)))
def m__law_breaks : M Fl :=
    (sRet (mNotV (mT (mB (f1 fAny) (aCons (mLc (iSeqM (mV 0)) (tName 2) tYesM m__law_breaks_1 [2]) aNil)))))
def g__law_breaks : List D → FR := runD [.pl, .pl] 1 m__law_breaks
theorem ok__law_breaks (h : Hs K mg base fa fdd tb) : FnOk P w K mg base (L2.CX P w) 1 (fa 30) (fdd 30) ["clause", "world"] (spV K cn tb [.pl, .pl] g__law_breaks) :=
  fn_okC h.F30 sc__law_breaks rfl (by decide) fun cdv A outer s H E F hcd hr hcn htb tk => by
    subst hcn htb
    have sc := sc__law_breaks
    exact (qss_one (qs_ret (qe_not (qe_callB (cr_any rfl) p_any rfl h.B_any rfl (qa_cons (qe_lc (own := [("one", 2)]) rfl sc.nd (qi_seq (qv 0)) (blkOk_by (by kernel_rfl)) (by decide) (fun _ _ _ _ _ => (qg_name sc.nd rfl loc_of)) (fun _ _ _ _ _ => qts_nil) (fun _ _ _ _ _ => (qe_cmp (op_eqD hr.units) p_eq (qe_ix ix_seq p_ix (qv 1) (qe_op op_sub p_sub (qe_callB call_abs p_abs rfl h.B_abs rfl (qa_cons (qv 2) qa_nil)) qe_int) (fun _ _ => rfl)) (qe_callTy call_int1 p_int rfl h.B_int rfl (qa_cons (qe_cmp op_gt p_gt (qv 2) qe_int (nomark _)) qa_nil)) (nomark _)))) qa_nil)))))
theorem sc__law_joined : FnScope ["signs_here", "found", "one"] ["signs_here"] (defScope s__law_joined) := ⟨rfl, rfl, rfl, by decide +kernel, rfl, by decide +kernel, by decide +kernel⟩
theorem b__law_joined (h : Hs K mg base fa fdd tb) : Binds K (fdd 32) ["signs_here"] [] := h.F32.bindsN fun _ _ _ _ _ _ us hl => match us, hl with
  | [_], _ => rfl
def m__law_joined_1 : M Fl :=
    (sSeq (sIf (mT (m2 fIn (m2 fSub (mC (.int 0)) (mV 2)) (mV 1))) (sRet (mC .none)) sNx)
    (sSet 1 (m2 fAdd (mV 1) (m2F fRep (mLst (kCons (mV 2) kNil)) (mB (f1 fInt) (aCons (m2 fNotIn (mV 2) (mV 1)) aNil))))))
def m__law_joined : M Fl :=
    (sSeq (sSet 1 (mLst kNil))
    (sSeq (sFor (iSeqM (m1 (fSrtK kAbs) (mV 0))) (tName 2) m__law_joined_1)
    (sRet (mB (f1 fTuple) (aCons (mV 1) aNil)))))
def g__law_joined : List D → FR := runD [.pl] 2 m__law_joined
theorem ok__law_joined (h : Hs K mg base fa fdd tb) : FnOk P w K mg base (L2.CX P w) 1 (fa 32) (fdd 32) ["signs_here"] (spV K cn tb [.pl] g__law_joined) :=
  fn_okC h.F32 sc__law_joined rfl (by decide) fun cdv A outer s H E F hcd hr hcn htb tk => by
    subst hcn htb
    have sc := sc__law_joined
    exact (qss_cons (qs_set (i := 1) sc.nd rfl loc_of (qe_lst qk_nil))
    (qss_cons (qs_for (passes_of rfl) rfl (qi_seq (qe_sortK rfl hr.units rfl h.B_sorted (qv 0) (ke_abs rfl h.B_abs))) (qg_name sc.nd rfl loc_of) (qss_cons (qs_if (qt_cmp (o_in (u65 hr)) p_in (qe_op op_sub p_sub qe_int (qv 2)) (qv 1) rfl) (qss_one (qs_ret qe_non)) qss_nil)
    (qss_one (qs_set (i := 1) sc.nd rfl loc_of (qe_op o_add p_add (qv 1) (qe_rep (qe_lst (qk_cons (qv 2) qk_nil)) (qe_callTy call_int1 p_int rfl h.B_int rfl (qa_cons (qe_cmp (o_notIn (u65 hr)) p_notIn (qv 2) (qv 1) rfl) qa_nil))))))))
    (qss_one (qs_ret (qe_callTy call_tuple_of p_tuple rfl h.B_tuple rfl (qa_cons (qv 1) qa_nil))))))
theorem sc__law_has_all : FnScope ["one", "other", "part"] ["one", "other"] (defScope s__law_has_all) := ⟨rfl, rfl, rfl, by decide +kernel, rfl, by decide +kernel, by decide +kernel⟩
theorem b__law_has_all (h : Hs K mg base fa fdd tb) : Binds K (fdd 33) ["one", "other"] [] := h.F33.bindsN fun _ _ _ _ _ _ us hl => match us, hl with
  | [_, _], _ => rfl
def m__law_has_all_1 : M Op :=
    (m2 fIn (mV 2) (mV 0))
def m__law_has_all : M Fl :=
    (sRet (mB (f1 fAll) (aCons (mLc (iSeqM (mV 1)) (tName 2) tYesM m__law_has_all_1 [2]) aNil)))
def g__law_has_all : List D → FR := runD [.pl, .pl] 1 m__law_has_all
theorem ok__law_has_all (h : Hs K mg base fa fdd tb) : FnOk P w K mg base (L2.CX P w) 1 (fa 33) (fdd 33) ["one", "other"] (spV K cn tb [.pl, .pl] g__law_has_all) :=
  fn_okC h.F33 sc__law_has_all rfl (by decide) fun cdv A outer s H E F hcd hr hcn htb tk => by
    subst hcn htb
    have sc := sc__law_has_all
    exact (qss_one (qs_ret (qe_callB (cr_all rfl) p_all rfl h.B_all rfl (qa_cons (qe_lc (own := [("part", 2)]) rfl sc.nd (qi_seq (qv 1)) (blkOk_by (by kernel_rfl)) (by decide) (fun _ _ _ _ _ => (qg_name sc.nd rfl loc_of)) (fun _ _ _ _ _ => qts_nil) (fun _ _ _ _ _ => (qe_cmp (o_in (u65 hr)) p_in (qv 2) (qv 0) rfl))) qa_nil))))
theorem sc__law_left : FnScope ["lot_row", "lot", "some", "clause", "one"] ["lot_row", "lot"] (defScope s__law_left) := ⟨rfl, rfl, rfl, by decide +kernel, rfl, by decide +kernel, by decide +kernel⟩
theorem b__law_left (h : Hs K mg base fa fdd tb) : Binds K (fdd 35) ["lot_row", "lot"] [] := h.F35.bindsN fun _ _ _ _ _ _ us hl => match us, hl with
  | [_, _], _ => rfl
def m__law_left_1 : M Bool :=
    (mT (m2 fNotIn (m2 fSub (mC (.int 0)) (mV 4)) (mV 1)))
def m__law_left_2 : M Op :=
    (mV 4)
def m__law_left_3 : M Op :=
    (mB (f1 fTuple) (aCons (mLc (iSeqM (mV 3)) (tName 4) m__law_left_1 m__law_left_2 [4]) aNil))
def m__law_left_4 : M Op :=
    (m2 fIn (mV 4) (mV 1))
def m__law_left_5 : M Bool :=
    (mNot (mT (mB (f1 fAny) (aCons (mLc (iSeqM (mV 3)) (tName 4) tYesM m__law_left_4 [4]) aNil))))
def m__law_left_6 : M Op :=
    (mV 3)
def m__law_left : M Fl :=
    (sSeq (sSet 2 (mLc (iSeqM (mV 0)) (tName 3) m__law_left_5 m__law_left_6 [3]))
    (sRet (mB (f1 fTuple) (aCons (mLc (iSeqM (mV 2)) (tName 3) tYesM m__law_left_3 [3]) aNil))))
def g__law_left : List D → FR := runD [.pl, .pl] 3 m__law_left
theorem ok__law_left (h : Hs K mg base fa fdd tb) : FnOk P w K mg base (L2.CX P w) 1 (fa 35) (fdd 35) ["lot_row", "lot"] (spV K cn tb [.pl, .pl] g__law_left) :=
  fn_okC h.F35 sc__law_left rfl (by decide) fun cdv A outer s H E F hcd hr hcn htb tk => by
    subst hcn htb
    have sc := sc__law_left
    exact (qss_cons (qs_setLc (i := 2) (own := [("clause", 3)]) rfl sc.nd rfl rfl rfl (qi_seq (qv 0)) (blkOk_by (by kernel_rfl)) (by decide) (fun _ _ _ _ _ => (qg_name sc.nd rfl loc_of)) (fun _ _ _ _ _ => (qts_one (qt_not (qt_val (qe_callB (cr_any rfl) p_any rfl h.B_any rfl (qa_cons (qe_lc (own := [("one", 4)]) rfl sc.nd (qi_seq (qv 3)) (blkOk_by (by kernel_rfl)) (by decide) (fun _ _ _ _ _ => (qg_name sc.nd rfl loc_of)) (fun _ _ _ _ _ => qts_nil) (fun _ _ _ _ _ => (qe_cmp (o_in (u65 hr)) p_in (qv 4) (qv 1) rfl))) qa_nil)))))) (fun _ _ _ _ _ => (qv 3)))
    (qss_one (qs_ret (qe_callTy call_tuple_of p_tuple rfl h.B_tuple rfl (qa_cons (qe_lc (own := [("clause", 3)]) rfl sc.nd (qi_seq (qv 2)) (blkOk_by (by kernel_rfl)) (by decide) (fun _ _ _ _ _ => (qg_name sc.nd rfl loc_of)) (fun _ _ _ _ _ => qts_nil) (fun _ _ _ _ _ => (qe_callTy call_tuple_of p_tuple rfl h.B_tuple rfl (qa_cons (qe_lc (own := [("one", 4)]) rfl sc.nd (qi_seq (qv 3)) (blkOk_by (by kernel_rfl)) (by decide) (fun _ _ _ _ _ => (qg_name sc.nd rfl loc_of)) (fun _ _ _ _ _ => (qts_one (qt_cmp (o_notIn (u65 hr)) p_notIn (qe_op op_sub p_sub qe_int (qv 4)) (qv 1) rfl))) (fun _ _ _ _ _ => (qv 4))) qa_nil)))) qa_nil)))))
theorem sc_is_within : FnScope ["thing", "least", "most"] ["thing", "least", "most"] (defScope s_is_within) := ⟨rfl, rfl, rfl, by decide +kernel, rfl, by decide +kernel, by decide +kernel⟩
theorem b_is_within (h : Hs K mg base fa fdd tb) : Binds K (fdd 1) ["thing", "least", "most"] [] := h.F1.bindsN fun _ _ _ _ _ _ us hl => match us, hl with
  | [_, _, _], _ => rfl
def m_is_within : M Fl :=
    (sRet (mAndV (mT (mCall g_is_integer [.pl] (aCons (mV 0) aNil))) (mChain fLe fLe (mV 1) (mV 0) (mV 2))))
def g_is_within : List D → FR := runD [.pl, .pl, .pl] 0 m_is_within
theorem ok_is_within (h : Hs K mg base fa fdd tb) : FnOk P w K mg base (L2.CX P w) 2 (fa 1) (fdd 1) ["thing", "least", "most"] (spV K cn tb [.pl, .pl, .pl] g_is_within) :=
  fn_okC h.F1 sc_is_within rfl (by decide) fun cdv A outer s H E F hcd hr hcn htb tk => by
    subst hcn htb
    have sc := sc_is_within
    exact (qss_one (qs_ret (qe_and (qe_call ((ok_is_integer h).mono (by decide)) hr rfl h.G0 h.F0.kp (b_is_integer h) tk (qa_cons (qv 0) qa_nil)) (qe_one (qe_chain op_le op_le p_le p_le (qv 1) (qv 0) (qv 2))))))
theorem sc_first_broken : FnScope ["clauses", "world", "at", "clause"] ["clauses", "world"] (defScope s_first_broken) := ⟨rfl, rfl, rfl, by decide +kernel, rfl, by decide +kernel, by decide +kernel⟩
theorem b_first_broken (h : Hs K mg base fa fdd tb) : Binds K (fdd 9) ["clauses", "world"] [] := h.F9.bindsN fun _ _ _ _ _ _ us hl => match us, hl with
  | [_, _], _ => rfl
def m_first_broken_1 : M Fl :=
    (sIf (mNot (mTr (mCall g_holds_in [.pl, .pl] (aCons (mV 3) (aCons (mV 1) aNil))))) (sRet (mV 2)) sNx)
def m_first_broken : M Fl :=
    (sSeq (sFor (iFnK enm (kiCons (mV 0) kiNil)) (tTup (tsCons (tName 2) (tsCons (tName 3) tsNil))) m_first_broken_1)
    (sRet (mC .none)))
def g_first_broken : List D → FR := runD [.pl, .pl] 2 m_first_broken
theorem ok_first_broken (h : Hs K mg base fa fdd tb) : FnOk P w K mg base (L2.CX P w) 2 (fa 9) (fdd 9) ["clauses", "world"] (spV K cn tb [.pl, .pl] g_first_broken) :=
  fn_okC h.F9 sc_first_broken rfl (by decide) fun cdv A outer s H E F hcd hr hcn htb tk => by
    subst hcn htb
    have sc := sc_first_broken
    exact (qss_cons (qs_for (passes_of rfl) rfl (qi_enum rfl h.B_enumerate (qki_cons (qv 0) qki_nil)) (qg_tup rfl (qgs_cons (qg_name sc.nd rfl loc_of) (qgs_cons (qg_name sc.nd rfl loc_of) qgs_nil)) (ts_lenS (ts_lenS ts_len0))) (qss_one (qs_if (qt_not (qt_tru (qe_call ((ok_holds_in h).mono (by decide)) hr rfl h.G8 h.F8.kp (b_holds_in h) tk (qa_cons (qv 3) (qa_cons (qv 1) qa_nil))))) (qss_one (qs_ret (qv 2))) qss_nil)))
    (qss_one (qs_ret qe_non)))
theorem sc_joined : FnScope ["literals", "told", "one", "other"] ["literals"] (defScope s_joined) := ⟨rfl, rfl, rfl, by decide +kernel, rfl, by decide +kernel, by decide +kernel⟩
theorem b_joined (h : Hs K mg base fa fdd tb) : Binds K (fdd 11) ["literals"] [] := h.F11.bindsN fun _ _ _ _ _ _ us hl => match us, hl with
  | [_], _ => rfl
def m_joined_1 : M Op :=
    (m2 fEq (mB (f1 fAbs) (aCons (mV 2) aNil)) (mB (f1 fAbs) (aCons (mV 3) aNil)))
def m_joined_2 : M Op :=
    (mV 2)
def m_joined_3 : M Op :=
    (mC (.bool true))
def m_joined : M Fl :=
    (sSeq (sSet 1 (m1 (fSrtK kAbsP) (mDc (iSeqM (mV 0)) (tName 2) tYesM m_joined_2 m_joined_3 [2])))
    (sSeq (sIf (mT (mB (f1 fAny) (aCons (mLc (iFnK zp (kiCons (mV 1) (kiCons (mSl fSl (mV 1) (bAt (mC (.int 1))) bNo) kiNil))) (tTup (tsCons (tName 2) (tsCons (tName 3) tsNil))) tYesM m_joined_1 [2, 3]) aNil))) (sRet (mC .none)) sNx)
    (sRet (mB (f1 fTuple) (aCons (mV 1) aNil)))))
def g_joined : List D → FR := runD [.pl] 3 m_joined
theorem ok_joined (h : Hs K mg base fa fdd tb) : FnOk P w K mg base (L2.CX P w) 2 (fa 11) (fdd 11) ["literals"] (spV K cn tb [.pl] g_joined) :=
  fn_okC h.F11 sc_joined rfl (by decide) fun cdv A outer s H E F hcd hr hcn htb tk => by
    subst hcn htb
    have sc := sc_joined
    obtain ⟨c, Pt, hc1, hc2, hc3, hc4⟩ := h.T11
    exact (qss_cons (qs_set (i := 1) sc.nd rfl loc_of (qe_sortK rfl hr.units rfl h.B_sorted (qe_dc (own := [("one", 2)]) rfl sc.nd (qi_seq (qv 0)) (blkOk_by (by kernel_rfl)) (by decide) (fun _ _ _ _ _ => (qg_name sc.nd rfl loc_of)) (fun _ _ _ _ _ => qts_nil) (fun _ _ _ _ _ => (qv 2)) (fun _ _ _ _ _ => qe_bl)) (ke_absP hr h.B_abs ⟨hc2, hcd.trans hc1, hc3, hc4, rfl, by decide⟩ rfl rfl rfl (by decide) rfl rfl (fun _ _ _ _ => rfl))))
    (qss_cons (qs_if (qt_val (qe_callB (cr_any rfl) p_any rfl h.B_any rfl (qa_cons (qe_lc (own := [("one", 2), ("other", 3)]) rfl sc.nd (qi_zip rfl h.B_zip (qki_cons (qv 1) (qki_cons (qe_sl s_sl p_sl (qv 1) (qo_some qe_int) qo_none) qki_nil))) (blkOk_by (by kernel_rfl)) (by decide) (fun _ _ _ _ _ => (qg_tup rfl (qgs_cons (qg_name sc.nd rfl loc_of) (qgs_cons (qg_name sc.nd rfl loc_of) qgs_nil)) (ts_lenS (ts_lenS ts_len0)))) (fun _ _ _ _ _ => qts_nil) (fun _ _ _ _ _ => (qe_cmp (op_eqD hr.units) p_eq (qe_callB call_abs p_abs rfl h.B_abs rfl (qa_cons (qv 2) qa_nil)) (qe_callB call_abs p_abs rfl h.B_abs rfl (qa_cons (qv 3) qa_nil)) (nomark _)))) qa_nil))) (qss_one (qs_ret qe_non)) qss_nil)
    (qss_one (qs_ret (qe_callTy call_tuple_of p_tuple rfl h.B_tuple rfl (qa_cons (qv 1) qa_nil))))))
theorem sc__law_any : FnScope ["hand", "some"] ["hand", "some"] (defScope s__law_any) := ⟨rfl, rfl, rfl, by decide +kernel, rfl, by decide +kernel, by decide +kernel⟩
theorem b__law_any (h : Hs K mg base fa fdd tb) : Binds K (fdd 22) ["hand", "some"] [] := h.F22.bindsN fun _ _ _ _ _ _ us hl => match us, hl with
  | [_, _], _ => rfl
def m__law_any : M Fl :=
    (sRet (m2 fIx (mV 1) (mCall g__law_draw [.mu, .pl] (aCons (mV 0) (aCons (mB (f1 fLen) (aCons (mV 1) aNil)) aNil)))))
def g__law_any : List D → FR := runD [.mu, .pl] 0 m__law_any
theorem ok__law_any (h : Hs K mg base fa fdd tb) : FnOk P w K mg base (L2.CX P w) 2 (fa 22) (fdd 22) ["hand", "some"] (spV K cn tb [.mu, .pl] g__law_any) :=
  fn_okC h.F22 sc__law_any rfl (by decide) fun cdv A outer s H E F hcd hr hcn htb tk => by
    subst hcn htb
    have sc := sc__law_any
    exact (qss_one (qs_ret (qe_ix ix_seq p_ix (qv 1) (qe_call ((ok__law_draw h).mono (by decide)) hr rfl h.G21 h.F21.kp (b__law_draw h) tk (qa_cons (qv 0) (qa_cons (qe_callB c_len p_len rfl h.B_len rfl (qa_cons (qv 1) qa_nil)) qa_nil))) (fun _ _ => rfl))))
theorem sc__law_mixed : FnScope ["hand", "things", "pool", "found"] ["hand", "things"] (defScope s__law_mixed) := ⟨rfl, rfl, rfl, by decide +kernel, rfl, by decide +kernel, by decide +kernel⟩
theorem b__law_mixed (h : Hs K mg base fa fdd tb) : Binds K (fdd 23) ["hand", "things"] [] := h.F23.bindsN fun _ _ _ _ _ _ us hl => match us, hl with
  | [_, _], _ => rfl
def m__law_mixed_1 : M Bool :=
    (mT (m2 fGt (mB (f1 fLen) (aCons (mV 2) aNil)) (mC (.int 0))))
def m__law_mixed_2 : M Fl :=
    (sDrop (meApp 3 (mK (mePopAt 2 (mCall g__law_draw [.mu, .pl] (aCons (mV 0) (aCons (mB (f1 fLen) (aCons (mV 2) aNil)) aNil)))))))
def m__law_mixed : M Fl :=
    (sSeq (sPar 2 3 (mB (f1 fList) (aCons (mV 1) aNil)) (mLst kNil))
    (sSeq (sWhile 1000 m__law_mixed_1 m__law_mixed_2)
    (sRet (mV 3))))
def g__law_mixed : List D → FR := runD [.mu, .pl] 2 m__law_mixed
theorem ok__law_mixed (h : Hs K mg base fa fdd tb) : FnOk P w K mg base (L2.CX P w) 2 (fa 23) (fdd 23) ["hand", "things"] (spV K cn tb [.mu, .pl] g__law_mixed) :=
  fn_okC h.F23 sc__law_mixed rfl (by decide) fun cdv A outer s H E F hcd hr hcn htb tk => by
    subst hcn htb
    have sc := sc__law_mixed
    exact (qss_cons (qs_par (i := 2) (j := 3) rfl sc.nd rfl rfl (by decide) rfl rfl (qe_callTy call_list_of p_list rfl h.B_list rfl (qa_cons (qv 1) qa_nil)) (qe_lst qk_nil) rfl)
    (qss_cons (qs_while 1000 (passes_of rfl) (qt_cmp op_gt p_gt (qe_callB c_len p_len rfl h.B_len rfl (qa_cons (qv 2) qa_nil)) qe_int (nomark _)) (qss_one (qs_expr (qe_app (i := 3) rfl (by first | exact Or.inl rfl | exact Or.inr (Or.inl rfl) | exact Or.inr (Or.inr rfl)) (qe_popAt (i := 2) rfl (by first | exact Or.inl rfl | exact Or.inr (Or.inl rfl) | exact Or.inr (Or.inr rfl)) (qe_call ((ok__law_draw h).mono (by decide)) hr rfl h.G21 h.F21.kp (b__law_draw h) tk (qa_cons (qv 0) (qa_cons (qe_callB c_len p_len rfl h.B_len rfl (qa_cons (qv 2) qa_nil)) qa_nil))))))))
    (qss_one (qs_ret (qv 3)))))
theorem sc__law_many : FnScope ["lot_row"] ["lot_row"] (defScope s__law_many) := ⟨rfl, rfl, rfl, by decide +kernel, rfl, by decide +kernel, by decide +kernel⟩
theorem b__law_many (h : Hs K mg base fa fdd tb) : Binds K (fdd 27) ["lot_row"] [] := h.F27.bindsN fun _ _ _ _ _ _ us hl => match us, hl with
  | [_], _ => rfl
def m__law_many : M Fl :=
    (sRet (mB fMax (aCons (m2 fAdd (mLst (kCons (mC (.int 0)) kNil)) (mCall g__law_atoms_of [.pl] (aCons (mV 0) aNil))) aNil)))
def g__law_many : List D → FR := runD [.pl] 0 m__law_many
theorem ok__law_many (h : Hs K mg base fa fdd tb) : FnOk P w K mg base (L2.CX P w) 2 (fa 27) (fdd 27) ["lot_row"] (spV K cn tb [.pl] g__law_many) :=
  fn_okC h.F27 sc__law_many rfl (by decide) fun cdv A outer s H E F hcd hr hcn htb tk => by
    subst hcn htb
    have sc := sc__law_many
    exact (qss_one (qs_ret (qe_callB (c_max rfl) p_max rfl h.B_max rfl (qa_cons (qe_op o_add p_add (qe_lst (qk_cons qe_int qk_nil)) (qe_call ((ok__law_atoms_of h).mono (by decide)) hr rfl h.G28 h.F28.kp (b__law_atoms_of h) tk (qa_cons (qv 0) qa_nil))) qa_nil))))
theorem sc__law_thin : FnScope ["lot_row", "found", "at", "clause", "ahead", "back_ones", "other"] ["lot_row"] (defScope s__law_thin) := ⟨rfl, rfl, rfl, by decide +kernel, rfl, by decide +kernel, by decide +kernel⟩
theorem b__law_thin (h : Hs K mg base fa fdd tb) : Binds K (fdd 34) ["lot_row"] [] := h.F34.bindsN fun _ _ _ _ _ _ us hl => match us, hl with
  | [_], _ => rfl
def m__law_thin_1 : M Bool :=
    (mAnd (mTr (mCall g__law_has_all [.pl, .pl] (aCons (mV 3) (aCons (mV 6) aNil)))) (mT (m2 fNe (mV 6) (mV 3))))
def m__law_thin_2 : M Op :=
    (mV 6)
def m__law_thin_3 : M Bool :=
    (mTr (mCall g__law_has_all [.pl, .pl] (aCons (mV 3) (aCons (mV 6) aNil))))
def m__law_thin_4 : M Op :=
    (mV 6)
def m__law_thin_5 : M Fl :=
    (sSeq (sSet 4 (mLc (iSeqM (mSl fSl (mV 0) bNo (bAt (mV 2)))) (tName 6) m__law_thin_3 m__law_thin_4 [6]))
    (sSeq (sSet 5 (mLc (iSeqM (mSl fSl (mV 0) (bAt (m2 fAdd (mV 2) (mC (.int 1)))) bNo)) (tName 6) m__law_thin_1 m__law_thin_2 [6]))
    (sSet 1 (m2 fAdd (mV 1) (m2F fRep (mLst (kCons (mV 3) kNil)) (mB (f1 fInt) (aCons (m2 fEq (m2 fAdd (mB (f1 fLen) (aCons (mV 4) aNil)) (mB (f1 fLen) (aCons (mV 5) aNil))) (mC (.int 0))) aNil)))))))
def m__law_thin : M Fl :=
    (sSeq (sSet 1 (mLst kNil))
    (sSeq (sFor (iFnK enm (kiCons (mV 0) kiNil)) (tTup (tsCons (tName 2) (tsCons (tName 3) tsNil))) m__law_thin_5)
    (sRet (mB (f1 fTuple) (aCons (mV 1) aNil)))))
def g__law_thin : List D → FR := runD [.pl] 6 m__law_thin
theorem ok__law_thin (h : Hs K mg base fa fdd tb) : FnOk P w K mg base (L2.CX P w) 2 (fa 34) (fdd 34) ["lot_row"] (spV K cn tb [.pl] g__law_thin) :=
  fn_okC h.F34 sc__law_thin rfl (by decide) fun cdv A outer s H E F hcd hr hcn htb tk => by
    subst hcn htb
    have sc := sc__law_thin
    exact (qss_cons (qs_set (i := 1) sc.nd rfl loc_of (qe_lst qk_nil))
    (qss_cons (qs_for (passes_of rfl) rfl (qi_enum rfl h.B_enumerate (qki_cons (qv 0) qki_nil)) (qg_tup rfl (qgs_cons (qg_name sc.nd rfl loc_of) (qgs_cons (qg_name sc.nd rfl loc_of) qgs_nil)) (ts_lenS (ts_lenS ts_len0))) (qss_cons (qs_setLc (i := 4) (own := [("other", 6)]) rfl sc.nd rfl rfl rfl (qi_seq (qe_sl s_sl p_sl (qv 0) qo_none (qo_some (qv 2)))) (blkOk_by (by kernel_rfl)) (by decide) (fun _ _ _ _ _ => (qg_name sc.nd rfl loc_of)) (fun _ _ _ _ _ => (qts_one (qt_tru (qe_call ((ok__law_has_all h).mono (by decide)) hr rfl h.G33 h.F33.kp (b__law_has_all h) LamX.takes0 (qa_cons (qv 3) (qa_cons (qv 6) qa_nil)))))) (fun _ _ _ _ _ => (qv 6)))
    (qss_cons (qs_setLc (i := 5) (own := [("other", 6)]) rfl sc.nd rfl rfl rfl (qi_seq (qe_sl s_sl p_sl (qv 0) (qo_some (qe_op o_add p_add (qv 2) qe_int)) qo_none)) (blkOk_by (by kernel_rfl)) (by decide) (fun _ _ _ _ _ => (qg_name sc.nd rfl loc_of)) (fun _ _ _ _ _ => (qts_one (qt_w (qw_and (qt_tru (qe_call ((ok__law_has_all h).mono (by decide)) hr rfl h.G33 h.F33.kp (b__law_has_all h) LamX.takes0 (qa_cons (qv 3) (qa_cons (qv 6) qa_nil)))) (qw_and1 (qt_cmp (op_neD hr.units) p_ne (qv 6) (qv 3) (nomark _))))))) (fun _ _ _ _ _ => (qv 6)))
    (qss_one (qs_set (i := 1) sc.nd rfl loc_of (qe_op o_add p_add (qv 1) (qe_rep (qe_lst (qk_cons (qv 3) qk_nil)) (qe_callTy call_int1 p_int rfl h.B_int rfl (qa_cons (qe_cmp (op_eqD hr.units) p_eq (qe_op o_add p_add (qe_callB c_len p_len rfl h.B_len rfl (qa_cons (qv 4) qa_nil)) (qe_callB c_len p_len rfl h.B_len rfl (qa_cons (qv 5) qa_nil))) qe_int (nomark _)) qa_nil)))))))))
    (qss_one (qs_ret (qe_callTy call_tuple_of p_tuple rfl h.B_tuple rfl (qa_cons (qv 1) qa_nil))))))
theorem sc_is_clause : FnScope ["thing", "one", "other"] ["thing"] (defScope s_is_clause) := ⟨rfl, rfl, rfl, by decide +kernel, rfl, by decide +kernel, by decide +kernel⟩
theorem b_is_clause (h : Hs K mg base fa fdd tb) : Binds K (fdd 4) ["thing"] [] := h.F4.bindsN fun _ _ _ _ _ _ us hl => match us, hl with
  | [_], _ => rfl
def m_is_clause_1 : M Op :=
    (m2 fLt (mB (f1 fAbs) (aCons (mV 1) aNil)) (mB (f1 fAbs) (aCons (mV 2) aNil)))
def m_is_clause_2 : M Op :=
    (mCall g_is_within [.pl, .pl, .pl] (aCons (mV 1) (aCons (m1 fNeg (mC (.int 12))) (aCons (mC (.int 12)) aNil))))
def m_is_clause : M Fl :=
    (sSeq (sIf (mOr (mNot (mT (m1 (fIsi ["tuple"]) (mV 0)))) (mNot (mT (mB (f1 fAll) (aCons (mLc (iSeqM (mV 0)) (tName 1) tYesM m_is_clause_2 [1]) aNil))))) (sRet (mC (.bool false))) sNx)
    (sSeq (sIf (mT (m2 fIn (mC (.int 0)) (mV 0))) (sRet (mC (.bool false))) sNx)
    (sRet (mB (f1 fAll) (aCons (mLc (iFnK zp (kiCons (mV 0) (kiCons (mSl fSl (mV 0) (bAt (mC (.int 1))) bNo) kiNil))) (tTup (tsCons (tName 1) (tsCons (tName 2) tsNil))) tYesM m_is_clause_1 [1, 2]) aNil)))))
def g_is_clause : List D → FR := runD [.pl] 2 m_is_clause
theorem ok_is_clause (h : Hs K mg base fa fdd tb) : FnOk P w K mg base (L2.CX P w) 3 (fa 4) (fdd 4) ["thing"] (spV K cn tb [.pl] g_is_clause) :=
  fn_okC h.F4 sc_is_clause rfl (by decide) fun cdv A outer s H E F hcd hr hcn htb tk => by
    subst hcn htb
    have sc := sc_is_clause
    exact (qss_cons (qs_if (qt_w (qw_or (qt_not (qt_val (qe_isi isi_tuple rfl h.B_isinstance rfl h.B_tuple rfl (qv 0)))) (qw_or1 (qt_not (qt_val (qe_callB (cr_all rfl) p_all rfl h.B_all rfl (qa_cons (qe_lc (own := [("one", 1)]) rfl sc.nd (qi_seq (qv 0)) (blkOk_by (by kernel_rfl)) (by decide) (fun _ _ _ _ _ => (qg_name sc.nd rfl loc_of)) (fun _ _ _ _ _ => qts_nil) (fun _ _ _ _ _ => (qe_call ((ok_is_within h).mono (by decide)) hr rfl h.G1 h.F1.kp (b_is_within h) LamX.takes0 (qa_cons (qv 1) (qa_cons (qe_un un_neg p_neg (qe_glI rfl h.I_MOST_ATOMS)) (qa_cons (qe_glI rfl h.I_MOST_ATOMS) qa_nil)))))) qa_nil))))))) (qss_one (qs_ret qe_bl)) qss_nil)
    (qss_cons (qs_if (qt_cmp (o_in (u65 hr)) p_in qe_int (qv 0) rfl) (qss_one (qs_ret qe_bl)) qss_nil)
    (qss_one (qs_ret (qe_callB (cr_all rfl) p_all rfl h.B_all rfl (qa_cons (qe_lc (own := [("one", 1), ("other", 2)]) rfl sc.nd (qi_zip rfl h.B_zip (qki_cons (qv 0) (qki_cons (qe_sl s_sl p_sl (qv 0) (qo_some qe_int) qo_none) qki_nil))) (blkOk_by (by kernel_rfl)) (by decide) (fun _ _ _ _ _ => (qg_tup rfl (qgs_cons (qg_name sc.nd rfl loc_of) (qgs_cons (qg_name sc.nd rfl loc_of) qgs_nil)) (ts_lenS (ts_lenS ts_len0)))) (fun _ _ _ _ _ => qts_nil) (fun _ _ _ _ _ => (qe_cmp op_lt p_lt (qe_callB call_abs p_abs rfl h.B_abs rfl (qa_cons (qv 1) qa_nil)) (qe_callB call_abs p_abs rfl h.B_abs rfl (qa_cons (qv 2) qa_nil)) (nomark _)))) qa_nil))))))
theorem sc_is_names : FnScope ["thing", "many", "one"] ["thing", "many"] (defScope s_is_names) := ⟨rfl, rfl, rfl, by decide +kernel, rfl, by decide +kernel, by decide +kernel⟩
theorem b_is_names (h : Hs K mg base fa fdd tb) : Binds K (fdd 19) ["thing", "many"] [] := h.F19.bindsN fun _ _ _ _ _ _ us hl => match us, hl with
  | [_, _], _ => rfl
def m_is_names_1 : M Op :=
    (mB (f1 fAbs) (aCons (mV 2) aNil))
def m_is_names_2 : M Op :=
    (mC (.bool true))
def m_is_names_3 : M Op :=
    (mAndV (mT (mCall g_is_within [.pl, .pl, .pl] (aCons (mV 2) (aCons (m1 fNeg (mC (.int 12))) (aCons (mC (.int 12)) aNil))))) (m2 fNe (mV 2) (mC (.int 0))))
def m_is_names : M Fl :=
    (sSeq (sIf (mOr (mNot (mT (m1 (fIsi ["tuple"]) (mV 0)))) (mT (m2 fNe (mB (f1 fLen) (aCons (mV 0) aNil)) (mV 1)))) (sRet (mC (.bool false))) sNx)
    (sSeq (sIf (mNot (mT (mB (f1 fAll) (aCons (mLc (iSeqM (mV 0)) (tName 2) tYesM m_is_names_3 [2]) aNil)))) (sRet (mC (.bool false))) sNx)
    (sRet (m2 fEq (mB (f1 fLen) (aCons (mDc (iSeqM (mV 0)) (tName 2) tYesM m_is_names_1 m_is_names_2 [2]) aNil)) (mV 1)))))
def g_is_names : List D → FR := runD [.pl, .pl] 1 m_is_names
theorem ok_is_names (h : Hs K mg base fa fdd tb) : FnOk P w K mg base (L2.CX P w) 3 (fa 19) (fdd 19) ["thing", "many"] (spV K cn tb [.pl, .pl] g_is_names) :=
  fn_okC h.F19 sc_is_names rfl (by decide) fun cdv A outer s H E F hcd hr hcn htb tk => by
    subst hcn htb
    have sc := sc_is_names
    exact (qss_cons (qs_if (qt_w (qw_or (qt_not (qt_val (qe_isi isi_tuple rfl h.B_isinstance rfl h.B_tuple rfl (qv 0)))) (qw_or1 (qt_cmp (op_neD hr.units) p_ne (qe_callB c_len p_len rfl h.B_len rfl (qa_cons (qv 0) qa_nil)) (qv 1) (nomark _))))) (qss_one (qs_ret qe_bl)) qss_nil)
    (qss_cons (qs_if (qt_not (qt_val (qe_callB (cr_all rfl) p_all rfl h.B_all rfl (qa_cons (qe_lc (own := [("one", 2)]) rfl sc.nd (qi_seq (qv 0)) (blkOk_by (by kernel_rfl)) (by decide) (fun _ _ _ _ _ => (qg_name sc.nd rfl loc_of)) (fun _ _ _ _ _ => qts_nil) (fun _ _ _ _ _ => (qe_and (qe_call ((ok_is_within h).mono (by decide)) hr rfl h.G1 h.F1.kp (b_is_within h) LamX.takes0 (qa_cons (qv 2) (qa_cons (qe_un un_neg p_neg (qe_glI rfl h.I_MOST_ATOMS)) (qa_cons (qe_glI rfl h.I_MOST_ATOMS) qa_nil)))) (qe_one (qe_cmp (op_neD hr.units) p_ne (qv 2) qe_int (nomark _)))))) qa_nil)))) (qss_one (qs_ret qe_bl)) qss_nil)
    (qss_one (qs_ret (qe_cmp (op_eqD hr.units) p_eq (qe_callB c_len p_len rfl h.B_len rfl (qa_cons (qe_dc (own := [("one", 2)]) rfl sc.nd (qi_seq (qv 0)) (blkOk_by (by kernel_rfl)) (by decide) (fun _ _ _ _ _ => (qg_name sc.nd rfl loc_of)) (fun _ _ _ _ _ => qts_nil) (fun _ _ _ _ _ => (qe_callB call_abs p_abs rfl h.B_abs rfl (qa_cons (qv 2) qa_nil))) (fun _ _ _ _ _ => qe_bl)) qa_nil)) (qv 1) (nomark _))))))
theorem sc__law_clause : FnScope ["hand", "atoms_here", "most", "some", "atom"] ["hand", "atoms_here", "most"] (defScope s__law_clause) := ⟨rfl, rfl, rfl, by decide +kernel, rfl, by decide +kernel, by decide +kernel⟩
theorem b__law_clause (h : Hs K mg base fa fdd tb) : Binds K (fdd 25) ["hand", "atoms_here", "most"] [] := h.F25.bindsN fun _ _ _ _ _ _ us hl => match us, hl with
  | [_, _, _], _ => rfl
def m__law_clause_1 : M Op :=
    (m2 fMul (mCall g__law_any [.mu, .pl] (aCons (mV 0) (aCons (mLst (kCons (mC (.int 1)) (kCons (m1 fNeg (mC (.int 1))) kNil))) aNil))) (mV 4))
def m__law_clause : M Fl :=
    (sSeq (sSet 3 (mB (f1 fSorted) (aCons (mSl fSl (mCall g__law_mixed [.mu, .pl] (aCons (mV 0) (aCons (mRg (mC (.int 1)) (m2 fAdd (mV 1) (mC (.int 1)))) aNil))) bNo (bAt (mCall g__law_draw [.mu, .pl] (aCons (mV 0) (aCons (m2 fAdd (mV 2) (mC (.int 1))) aNil))))) aNil)))
    (sRet (mB (f1 fTuple) (aCons (mLc (iSeqM (mV 3)) (tName 4) tYesM m__law_clause_1 [4]) aNil))))
def g__law_clause : List D → FR := runD [.mu, .pl, .pl] 2 m__law_clause
theorem ok__law_clause (h : Hs K mg base fa fdd tb) : FnOk P w K mg base (L2.CX P w) 3 (fa 25) (fdd 25) ["hand", "atoms_here", "most"] (spV K cn tb [.mu, .pl, .pl] g__law_clause) :=
  fn_okC h.F25 sc__law_clause rfl (by decide) fun cdv A outer s H E F hcd hr hcn htb tk => by
    subst hcn htb
    have sc := sc__law_clause
    exact (qss_cons (qs_set (i := 3) sc.nd rfl loc_of (qe_callB cr_sortedI p_sorted rfl h.B_sorted rfl (qa_cons (qe_sl s_sl p_sl (qe_call ((ok__law_mixed h).mono (by decide)) hr rfl h.G23 h.F23.kp (b__law_mixed h) tk (qa_cons (qv 0) (qa_cons (qe_listRg rfl rfl h.B_list rfl h.B_range qe_int (qe_op o_add p_add (qv 1) qe_int)) qa_nil))) qo_none (qo_some (qe_call ((ok__law_draw h).mono (by decide)) hr rfl h.G21 h.F21.kp (b__law_draw h) tk (qa_cons (qv 0) (qa_cons (qe_op o_add p_add (qv 2) qe_int) qa_nil))))) qa_nil)))
    (qss_one (qs_ret (qe_callTy call_tuple_of p_tuple rfl h.B_tuple rfl (qa_cons (qe_lc (own := [("atom", 4)]) rfl sc.nd (qi_seq (qv 3)) (blkOk_by (by kernel_rfl)) (by decide) (fun _ _ _ _ _ => (qg_name sc.nd rfl loc_of)) (fun _ _ _ _ _ => qts_nil) (fun _ _ _ _ _ => (qe_op op_mulX p_mul (qe_call ((ok__law_any h).mono (by decide)) hr rfl h.G22 h.F22.kp (b__law_any h) LamX.takes0 (qa_cons (qv 0) (qa_cons (qe_lst (qk_cons qe_int (qk_cons (qe_un un_neg p_neg qe_int) qk_nil))) qa_nil))) (qv 4)))) qa_nil)))))
theorem sc__law_models : FnScope ["lot_row", "world", "one"] ["lot_row"] (defScope s__law_models) := ⟨rfl, rfl, rfl, by decide +kernel, rfl, by decide +kernel, by decide +kernel⟩
theorem b__law_models (h : Hs K mg base fa fdd tb) : Binds K (fdd 31) ["lot_row"] [] := h.F31.bindsN fun _ _ _ _ _ _ us hl => match us, hl with
  | [_], _ => rfl
def m__law_models_1 : M Op :=
    (mCall g__law_breaks [.pl, .pl] (aCons (mV 2) (aCons (mV 1) aNil)))
def m__law_models_2 : M Bool :=
    (mNot (mT (mB (f1 fAny) (aCons (mLc (iSeqM (mV 0)) (tName 2) tYesM m__law_models_1 [2]) aNil))))
def m__law_models_3 : M Op :=
    (mV 1)
def m__law_models : M Fl :=
    (sRet (mLc (iSeqM (mCall g__law_worlds [.pl] (aCons (mCall g__law_many [.pl] (aCons (mV 0) aNil)) aNil))) (tName 1) m__law_models_2 m__law_models_3 [1]))
def g__law_models : List D → FR := runD [.pl] 2 m__law_models
theorem ok__law_models (h : Hs K mg base fa fdd tb) : FnOk P w K mg base (L2.CX P w) 3 (fa 31) (fdd 31) ["lot_row"] (spV K cn tb [.pl] g__law_models) :=
  fn_okC h.F31 sc__law_models rfl (by decide) fun cdv A outer s H E F hcd hr hcn htb tk => by
    subst hcn htb
    have sc := sc__law_models
    exact (qss_one (qs_ret (qe_lc (own := [("world", 1)]) rfl sc.nd (qi_seq (qe_call ((ok__law_worlds h).mono (by decide)) hr rfl h.G29 h.F29.kp (b__law_worlds h) tk (qa_cons (qe_call ((ok__law_many h).mono (by decide)) hr rfl h.G27 h.F27.kp (b__law_many h) tk (qa_cons (qv 0) qa_nil)) qa_nil))) (blkOk_by (by kernel_rfl)) (by decide) (fun _ _ _ _ _ => (qg_name sc.nd rfl loc_of)) (fun _ _ _ _ _ => (qts_one (qt_not (qt_val (qe_callB (cr_any rfl) p_any rfl h.B_any rfl (qa_cons (qe_lc (own := [("one", 2)]) rfl sc.nd (qi_seq (qv 0)) (blkOk_by (by kernel_rfl)) (by decide) (fun _ _ _ _ _ => (qg_name sc.nd rfl loc_of)) (fun _ _ _ _ _ => qts_nil) (fun _ _ _ _ _ => (qe_call ((ok__law_breaks h).mono (by decide)) hr rfl h.G30 h.F30.kp (b__law_breaks h) LamX.takes0 (qa_cons (qv 2) (qa_cons (qv 1) qa_nil))))) qa_nil)))))) (fun _ _ _ _ _ => (qv 1)))))
theorem sc_is_clauses : FnScope ["thing", "one"] ["thing"] (defScope s_is_clauses) := ⟨rfl, rfl, rfl, by decide +kernel, rfl, by decide +kernel, by decide +kernel⟩
theorem b_is_clauses (h : Hs K mg base fa fdd tb) : Binds K (fdd 5) ["thing"] [] := h.F5.bindsN fun _ _ _ _ _ _ us hl => match us, hl with
  | [_], _ => rfl
def m_is_clauses_1 : M Op :=
    (mCall g_is_clause [.pl] (aCons (mV 1) aNil))
def m_is_clauses : M Fl :=
    (sSeq (sIf (mOr (mNot (mT (m1 (fIsi ["tuple"]) (mV 0)))) (mT (m2 fGt (mB (f1 fLen) (aCons (mV 0) aNil)) (mC (.int 80))))) (sRet (mC (.bool false))) sNx)
    (sRet (mB (f1 fAll) (aCons (mLc (iSeqM (mV 0)) (tName 1) tYesM m_is_clauses_1 [1]) aNil))))
def g_is_clauses : List D → FR := runD [.pl] 1 m_is_clauses
theorem ok_is_clauses (h : Hs K mg base fa fdd tb) : FnOk P w K mg base (L2.CX P w) 4 (fa 5) (fdd 5) ["thing"] (spV K cn tb [.pl] g_is_clauses) :=
  fn_okC h.F5 sc_is_clauses rfl (by decide) fun cdv A outer s H E F hcd hr hcn htb tk => by
    subst hcn htb
    have sc := sc_is_clauses
    exact (qss_cons (qs_if (qt_w (qw_or (qt_not (qt_val (qe_isi isi_tuple rfl h.B_isinstance rfl h.B_tuple rfl (qv 0)))) (qw_or1 (qt_cmp op_gt p_gt (qe_callB c_len p_len rfl h.B_len rfl (qa_cons (qv 0) qa_nil)) (qe_glI rfl h.I_MOST_CLAUSES) (nomark _))))) (qss_one (qs_ret qe_bl)) qss_nil)
    (qss_one (qs_ret (qe_callB (cr_all rfl) p_all rfl h.B_all rfl (qa_cons (qe_lc (own := [("one", 1)]) rfl sc.nd (qi_seq (qv 0)) (blkOk_by (by kernel_rfl)) (by decide) (fun _ _ _ _ _ => (qg_name sc.nd rfl loc_of)) (fun _ _ _ _ _ => qts_nil) (fun _ _ _ _ _ => (qe_call ((ok_is_clause h).mono (by decide)) hr rfl h.G4 h.F4.kp (b_is_clause h) LamX.takes0 (qa_cons (qv 1) qa_nil)))) qa_nil)))))
theorem sc_is_lot : FnScope ["thing"] ["thing"] (defScope s_is_lot) := ⟨rfl, rfl, rfl, by decide +kernel, rfl, by decide +kernel, by decide +kernel⟩
theorem b_is_lot (h : Hs K mg base fa fdd tb) : Binds K (fdd 15) ["thing"] [] := h.F15.bindsN fun _ _ _ _ _ _ us hl => match us, hl with
  | [_], _ => rfl
def m_is_lot : M Fl :=
    (sRet (mCall g_is_clause [.pl] (aCons (mV 0) aNil)))
def g_is_lot : List D → FR := runD [.pl] 0 m_is_lot
theorem ok_is_lot (h : Hs K mg base fa fdd tb) : FnOk P w K mg base (L2.CX P w) 4 (fa 15) (fdd 15) ["thing"] (spV K cn tb [.pl] g_is_lot) :=
  fn_okC h.F15 sc_is_lot rfl (by decide) fun cdv A outer s H E F hcd hr hcn htb tk => by
    subst hcn htb
    have sc := sc_is_lot
    exact (qss_one (qs_ret (qe_call ((ok_is_clause h).mono (by decide)) hr rfl h.G4 h.F4.kp (b_is_clause h) tk (qa_cons (qv 0) qa_nil))))
theorem sc__law_clauses : FnScope ["hand", "found", "atoms_here", "way", "some", "atom", "lap", "one", "longer"] ["hand"] (defScope s__law_clauses) := ⟨rfl, rfl, rfl, by decide +kernel, rfl, by decide +kernel, by decide +kernel⟩
theorem b__law_clauses (h : Hs K mg base fa fdd tb) : Binds K (fdd 26) ["hand"] [] := h.F26.bindsN fun _ _ _ _ _ _ us hl => match us, hl with
  | [_], _ => rfl
def m__law_clauses_1 : M Bool :=
    (mOr (mT (m2 fGt (mV 3) (mC (.int 2)))) (mT (m2 fGt (mCall g__law_draw [.mu, .pl] (aCons (mV 0) (aCons (mC (.int 8)) aNil))) (mC (.int 0)))))
def m__law_clauses_2 : M Op :=
    (mB (f1 fTuple) (aCons (m1 (fSrtK kAbs) (mV 7)) aNil))
def m__law_clauses_3 : M Fl :=
    (sDrop (meExt 8 (mLst (kCons (m2 fAdd (mV 7) (mTup (kCons (mV 5) kNil))) (kCons (m2 fAdd (mV 7) (mTup (kCons (m2 fSub (mC (.int 0)) (mV 5)) kNil))) kNil)))))
def m__law_clauses_4 : M Fl :=
    (sSeq (sSet 8 (mLst kNil))
    (sSeq (sFor (iSeqM (mV 4)) (tName 7) m__law_clauses_3)
    (sSet 4 (mV 8))))
def m__law_clauses_5 : M Bool :=
    (mOr (mT (m2 fGt (mB (f1 fLen) (aCons (mV 7) aNil)) (mC (.int 0)))) (mT (m2 fEq (mCall g__law_draw [.mu, .pl] (aCons (mV 0) (aCons (mC (.int 6)) aNil))) (mC (.int 0)))))
def m__law_clauses_6 : M Op :=
    (mV 7)
def m__law_clauses_7 : M Op :=
    (mCall g__law_clause [.mu, .pl, .pl] (aCons (mV 0) (aCons (mV 2) (aCons (mC (.int 3)) aNil))))
def m__law_clauses : M Fl :=
    (sSeq (sTg (tTup (tsCons (tName 2) (tsCons (tName 3) tsNil))) (mTup (kCons (m2 fAdd (mC (.int 1)) (mCall g__law_draw [.mu, .pl] (aCons (mV 0) (aCons (mC (.int 4)) aNil)))) (kCons (mCall g__law_draw [.mu, .pl] (aCons (mV 0) (aCons (mC (.int 5)) aNil))) kNil))))
    (sSeq (sSet 1 (mLc (iFn rng1 (aCons (mCall g__law_draw [.mu, .pl] (aCons (mV 0) (aCons (mC (.int 9)) aNil))) aNil)) (tName 6) tYesM m__law_clauses_7 [6]))
    (sSeq (sSet 1 (mLc (iSeqM (mV 1)) (tName 7) m__law_clauses_5 m__law_clauses_6 [7]))
    (sSeq (sIf (mT (m2 fGt (mV 3) (mC (.int 1)))) (sSeq (sSet 4 (mLst (kCons (mTup kNil) kNil)))
    (sSeq (sFor (iSeqM (mSl fSl (mCall g__law_mixed [.mu, .pl] (aCons (mV 0) (aCons (mRg (mC (.int 1)) (m2 fAdd (mV 2) (mC (.int 1)))) aNil))) bNo (bAt (mC (.int 3))))) (tName 5) m__law_clauses_4)
    (sSet 1 (m2 fAdd (mSl fSl (mV 1) bNo (bAt (mC (.int 3)))) (mLc (iSeqM (mV 4)) (tName 7) m__law_clauses_1 m__law_clauses_2 [7]))))) sNx)
    (sRet (mB (f1 fTuple) (aCons (mCall g__law_mixed [.mu, .pl] (aCons (mV 0) (aCons (m2 fAdd (mV 1) (mSl fSl (mV 1) bNo (bAt (mCall g__law_draw [.mu, .pl] (aCons (mV 0) (aCons (mC (.int 2)) aNil)))))) aNil))) aNil)))))))
def g__law_clauses : List D → FR := runD [.mu] 8 m__law_clauses
theorem ok__law_clauses (h : Hs K mg base fa fdd tb) : FnOk P w K mg base (L2.CX P w) 4 (fa 26) (fdd 26) ["hand"] (spV K cn tb [.mu] g__law_clauses) :=
  fn_okC h.F26 sc__law_clauses rfl (by decide) fun cdv A outer s H E F hcd hr hcn htb tk => by
    subst hcn htb
    have sc := sc__law_clauses
    exact (qss_cons (qs_asg (qe_tup (qk_cons (qe_op o_add p_add qe_int (qe_call ((ok__law_draw h).mono (by decide)) hr rfl h.G21 h.F21.kp (b__law_draw h) tk (qa_cons (qv 0) (qa_cons qe_int qa_nil)))) (qk_cons (qe_call ((ok__law_draw h).mono (by decide)) hr rfl h.G21 h.F21.kp (b__law_draw h) tk (qa_cons (qv 0) (qa_cons qe_int qa_nil))) qk_nil))) (qg_tup rfl (qgs_cons (qg_name sc.nd rfl loc_of) (qgs_cons (qg_name sc.nd rfl loc_of) qgs_nil)) (ts_lenS (ts_lenS ts_len0))))
    (qss_cons (qs_setLc (i := 1) (own := [("lap", 6)]) rfl sc.nd rfl rfl rfl (qi_range1 rfl h.B_range (qa_cons (qe_call ((ok__law_draw h).mono (by decide)) hr rfl h.G21 h.F21.kp (b__law_draw h) tk (qa_cons (qv 0) (qa_cons qe_int qa_nil))) qa_nil)) (blkOk_by (by kernel_rfl)) (by decide) (fun _ _ _ _ _ => (qg_name sc.nd rfl loc_of)) (fun _ _ _ _ _ => qts_nil) (fun _ _ _ _ _ => (qe_call ((ok__law_clause h).mono (by decide)) hr rfl h.G25 h.F25.kp (b__law_clause h) LamX.takes0 (qa_cons (qv 0) (qa_cons (qv 2) (qa_cons qe_int qa_nil))))))
    (qss_cons (qs_setLc (i := 1) (own := [("one", 7)]) rfl sc.nd rfl rfl rfl (qi_seq (qv 1)) (blkOk_by (by kernel_rfl)) (by decide) (fun _ _ _ _ _ => (qg_name sc.nd rfl loc_of)) (fun _ _ _ _ _ => (qts_one (qt_w (qw_or (qt_cmp op_gt p_gt (qe_callB c_len p_len rfl h.B_len rfl (qa_cons (qv 7) qa_nil)) qe_int (nomark _)) (qw_or1 (qt_cmp (op_eqD hr.units) p_eq (qe_call ((ok__law_draw h).mono (by decide)) hr rfl h.G21 h.F21.kp (b__law_draw h) LamX.takes0 (qa_cons (qv 0) (qa_cons qe_int qa_nil))) qe_int (nomark _))))))) (fun _ _ _ _ _ => (qv 7)))
    (qss_cons (qs_if (qt_cmp op_gt p_gt (qv 3) qe_int (nomark _)) (qss_cons (qs_set (i := 4) sc.nd rfl loc_of (qe_lst (qk_cons (qe_tup qk_nil) qk_nil)))
    (qss_cons (qs_for (passes_of rfl) rfl (qi_seq (qe_sl s_sl p_sl (qe_call ((ok__law_mixed h).mono (by decide)) hr rfl h.G23 h.F23.kp (b__law_mixed h) tk (qa_cons (qv 0) (qa_cons (qe_listRg rfl rfl h.B_list rfl h.B_range qe_int (qe_op o_add p_add (qv 2) qe_int)) qa_nil))) qo_none (qo_some qe_int))) (qg_name sc.nd rfl loc_of) (qss_cons (qs_set (i := 8) sc.nd rfl loc_of (qe_lst qk_nil))
    (qss_cons (qs_for (passes_of rfl) rfl (qi_seq (qv 4)) (qg_name sc.nd rfl loc_of) (qss_one (qs_expr (qe_ext (i := 8) rfl (by first | exact Or.inl rfl | exact Or.inr (Or.inl rfl) | exact Or.inr (Or.inr rfl)) (qe_lst (qk_cons (qe_op o_add p_add (qv 7) (qe_tup (qk_cons (qv 5) qk_nil))) (qk_cons (qe_op o_add p_add (qv 7) (qe_tup (qk_cons (qe_op op_sub p_sub qe_int (qv 5)) qk_nil))) qk_nil)))))))
    (qss_one (qs_set (i := 4) sc.nd rfl loc_of (qv 8))))))
    (qss_one (qs_set (i := 1) sc.nd rfl loc_of (qe_op o_add p_add (qe_sl s_sl p_sl (qv 1) qo_none (qo_some qe_int)) (qe_lc (own := [("one", 7)]) rfl sc.nd (qi_seq (qv 4)) (blkOk_by (by kernel_rfl)) (by decide) (fun _ _ _ _ _ => (qg_name sc.nd rfl loc_of)) (fun _ _ _ _ _ => (qts_one (qt_w (qw_or (qt_cmp op_gt p_gt (qv 3) qe_int (nomark _)) (qw_or1 (qt_cmp op_gt p_gt (qe_call ((ok__law_draw h).mono (by decide)) hr rfl h.G21 h.F21.kp (b__law_draw h) LamX.takes0 (qa_cons (qv 0) (qa_cons qe_int qa_nil))) qe_int (nomark _))))))) (fun _ _ _ _ _ => (qe_callTy call_tuple_of p_tuple rfl h.B_tuple rfl (qa_cons (qe_sortK rfl hr.units rfl h.B_sorted (qv 7) (ke_abs rfl h.B_abs)) qa_nil))))))))) qss_nil)
    (qss_one (qs_ret (qe_callTy call_tuple_of p_tuple rfl h.B_tuple rfl (qa_cons (qe_call ((ok__law_mixed h).mono (by decide)) hr rfl h.G23 h.F23.kp (b__law_mixed h) tk (qa_cons (qv 0) (qa_cons (qe_op o_add p_add (qv 1) (qe_sl s_sl p_sl (qv 1) qo_none (qo_some (qe_call ((ok__law_draw h).mono (by decide)) hr rfl h.G21 h.F21.kp (b__law_draw h) tk (qa_cons (qv 0) (qa_cons qe_int qa_nil)))))) qa_nil))) qa_nil))))))))
theorem sc_check_clauses : FnScope ["clauses"] ["clauses"] (defScope s_check_clauses) := ⟨rfl, rfl, rfl, by decide +kernel, rfl, by decide +kernel, by decide +kernel⟩
theorem b_check_clauses (h : Hs K mg base fa fdd tb) : Binds K (fdd 6) ["clauses"] [] := h.F6.bindsN fun _ _ _ _ _ _ us hl => match us, hl with
  | [_], _ => rfl
def m_check_clauses : M Fl :=
    (sIf (mNot (mTr (mCall g_is_clauses [.pl] (aCons (mV 0) aNil)))) sNo sNx)
def g_check_clauses : List D → FR := runD [.pl] 0 m_check_clauses
theorem ok_check_clauses (h : Hs K mg base fa fdd tb) : FnOk P w K mg base (L2.CX P w) 5 (fa 6) (fdd 6) ["clauses"] (spV K cn tb [.pl] g_check_clauses) :=
  fn_okC h.F6 sc_check_clauses rfl (by decide) fun cdv A outer s H E F hcd hr hcn htb tk => by
    subst hcn htb
    have sc := sc_check_clauses
    exact (qss_one (qs_if (qt_not (qt_tru (qe_call ((ok_is_clauses h).mono (by decide)) hr rfl h.G5 h.F5.kp (b_is_clauses h) tk (qa_cons (qv 0) qa_nil)))) (qss_one qs_no) qss_nil))
theorem sc_check_lot : FnScope ["lot"] ["lot"] (defScope s_check_lot) := ⟨rfl, rfl, rfl, by decide +kernel, rfl, by decide +kernel, by decide +kernel⟩
theorem b_check_lot (h : Hs K mg base fa fdd tb) : Binds K (fdd 16) ["lot"] [] := h.F16.bindsN fun _ _ _ _ _ _ us hl => match us, hl with
  | [_], _ => rfl
def m_check_lot : M Fl :=
    (sIf (mNot (mTr (mCall g_is_lot [.pl] (aCons (mV 0) aNil)))) sNo sNx)
def g_check_lot : List D → FR := runD [.pl] 0 m_check_lot
theorem ok_check_lot (h : Hs K mg base fa fdd tb) : FnOk P w K mg base (L2.CX P w) 5 (fa 16) (fdd 16) ["lot"] (spV K cn tb [.pl] g_check_lot) :=
  fn_okC h.F16 sc_check_lot rfl (by decide) fun cdv A outer s H E F hcd hr hcn htb tk => by
    subst hcn htb
    have sc := sc_check_lot
    exact (qss_one (qs_if (qt_not (qt_tru (qe_call ((ok_is_lot h).mono (by decide)) hr rfl h.G15 h.F15.kp (b_is_lot h) tk (qa_cons (qv 0) qa_nil)))) (qss_one qs_no) qss_nil))
theorem sc_models_of : FnScope ["clauses", "many", "worlds", "number", "world"] ["clauses"] (defScope s_models_of) := ⟨rfl, rfl, rfl, by decide +kernel, rfl, by decide +kernel, by decide +kernel⟩
theorem b_models_of (h : Hs K mg base fa fdd tb) : Binds K (fdd 10) ["clauses"] [] := h.F10.bindsN fun _ _ _ _ _ _ us hl => match us, hl with
  | [_], _ => rfl
def m_models_of_1 : M Bool :=
    (mT (m2 fIs (mCall g_first_broken [.pl, .pl] (aCons (mV 0) (aCons (mV 4) aNil))) (mC .none)))
def m_models_of_2 : M Op :=
    (mV 4)
def m_models_of_3 : M Op :=
    (mCall g_bits_of [.pl, .pl] (aCons (mV 3) (aCons (mV 1) aNil)))
def m_models_of : M Fl :=
    (sSeq (sDrop (mCall g_check_clauses [.pl] (aCons (mV 0) aNil)))
    (sSeq (sSet 1 (mCall g_many_in [.pl] (aCons (mV 0) aNil)))
    (sSeq (sIf (mT (m2 fGt (mV 1) (mC (.int 10)))) sNo sNx)
    (sSeq (sSet 2 (mLc (iFn rng1 (aCons (mCall g_two_to [.pl] (aCons (mV 1) aNil)) aNil)) (tName 3) tYesM m_models_of_3 [3]))
    (sRet (mLc (iSeqM (mV 2)) (tName 4) m_models_of_1 m_models_of_2 [4]))))))
def g_models_of : List D → FR := runD [.pl] 4 m_models_of
theorem ok_models_of (h : Hs K mg base fa fdd tb) : FnOk P w K mg base (L2.CX P w) 6 (fa 10) (fdd 10) ["clauses"] (spV K cn tb [.pl] g_models_of) :=
  fn_okC h.F10 sc_models_of rfl (by decide) fun cdv A outer s H E F hcd hr hcn htb tk => by
    subst hcn htb
    have sc := sc_models_of
    exact (qss_cons (qs_expr (qe_call ((ok_check_clauses h).mono (by decide)) hr rfl h.G6 h.F6.kp (b_check_clauses h) tk (qa_cons (qv 0) qa_nil)))
    (qss_cons (qs_set (i := 1) sc.nd rfl loc_of (qe_call ((ok_many_in h).mono (by decide)) hr rfl h.G7 h.F7.kp (b_many_in h) tk (qa_cons (qv 0) qa_nil)))
    (qss_cons (qs_if (qt_cmp op_gt p_gt (qv 1) qe_int (nomark _)) (qss_one qs_no) qss_nil)
    (qss_cons (qs_setLc (i := 2) (own := [("number", 3)]) rfl sc.nd rfl rfl rfl (qi_range1 rfl h.B_range (qa_cons (qe_call ((ok_two_to h).mono (by decide)) hr rfl h.G2 h.F2.kp (b_two_to h) tk (qa_cons (qv 1) qa_nil)) qa_nil)) (blkOk_by (by kernel_rfl)) (by decide) (fun _ _ _ _ _ => (qg_name sc.nd rfl loc_of)) (fun _ _ _ _ _ => qts_nil) (fun _ _ _ _ _ => (qe_call ((ok_bits_of h).mono (by decide)) hr rfl h.G3 h.F3.kp (b_bits_of h) LamX.takes0 (qa_cons (qv 3) (qa_cons (qv 1) qa_nil)))))
    (qss_one (qs_ret (qe_lc (own := [("world", 4)]) rfl sc.nd (qi_seq (qv 2)) (blkOk_by (by kernel_rfl)) (by decide) (fun _ _ _ _ _ => (qg_name sc.nd rfl loc_of)) (fun _ _ _ _ _ => (qts_one (qt_cmp o_is p_is (qe_call ((ok_first_broken h).mono (by decide)) hr rfl h.G9 h.F9.kp (b_first_broken h) LamX.takes0 (qa_cons (qv 0) (qa_cons (qv 4) qa_nil))) qe_non (nomark _)))) (fun _ _ _ _ _ => (qv 4)))))))))
theorem sc_thinned : FnScope ["clauses", "found", "at", "clause", "to", "other"] ["clauses"] (defScope s_thinned) := ⟨rfl, rfl, rfl, by decide +kernel, rfl, by decide +kernel, by decide +kernel⟩
theorem b_thinned (h : Hs K mg base fa fdd tb) : Binds K (fdd 13) ["clauses"] [] := h.F13.bindsN fun _ _ _ _ _ _ us hl => match us, hl with
  | [_], _ => rfl
def m_thinned_1 : M Op :=
    (mAndV (mT (mCall g_is_part [.pl, .pl] (aCons (mV 5) (aCons (mV 3) aNil)))) (mOrV (mT (m2 fNe (mV 5) (mV 3))) (m2 fLt (mV 4) (mV 2))))
def m_thinned_2 : M Fl :=
    (sIf (mNot (mT (mB (f1 fAny) (aCons (mLc (iFnK enm (kiCons (mV 0) kiNil)) (tTup (tsCons (tName 4) (tsCons (tName 5) tsNil))) tYesM m_thinned_1 [4, 5]) aNil)))) (sDrop (meApp 1 (mK (mV 3)))) sNx)
def m_thinned : M Fl :=
    (sSeq (sDrop (mCall g_check_clauses [.pl] (aCons (mV 0) aNil)))
    (sSeq (sSet 1 (mLst kNil))
    (sSeq (sFor (iFnK enm (kiCons (mV 0) kiNil)) (tTup (tsCons (tName 2) (tsCons (tName 3) tsNil))) m_thinned_2)
    (sRet (mB (f1 fTuple) (aCons (mV 1) aNil))))))
def g_thinned : List D → FR := runD [.pl] 5 m_thinned
theorem ok_thinned (h : Hs K mg base fa fdd tb) : FnOk P w K mg base (L2.CX P w) 6 (fa 13) (fdd 13) ["clauses"] (spV K cn tb [.pl] g_thinned) :=
  fn_okC h.F13 sc_thinned rfl (by decide) fun cdv A outer s H E F hcd hr hcn htb tk => by
    subst hcn htb
    have sc := sc_thinned
    exact (qss_cons (qs_expr (qe_call ((ok_check_clauses h).mono (by decide)) hr rfl h.G6 h.F6.kp (b_check_clauses h) tk (qa_cons (qv 0) qa_nil)))
    (qss_cons (qs_set (i := 1) sc.nd rfl loc_of (qe_lst qk_nil))
    (qss_cons (qs_for (passes_of rfl) rfl (qi_enum rfl h.B_enumerate (qki_cons (qv 0) qki_nil)) (qg_tup rfl (qgs_cons (qg_name sc.nd rfl loc_of) (qgs_cons (qg_name sc.nd rfl loc_of) qgs_nil)) (ts_lenS (ts_lenS ts_len0))) (qss_one (qs_if (qt_not (qt_val (qe_callB (cr_any rfl) p_any rfl h.B_any rfl (qa_cons (qe_lc (own := [("to", 4), ("other", 5)]) rfl sc.nd (qi_enum rfl h.B_enumerate (qki_cons (qv 0) qki_nil)) (blkOk_by (by kernel_rfl)) (by decide) (fun _ _ _ _ _ => (qg_tup rfl (qgs_cons (qg_name sc.nd rfl loc_of) (qgs_cons (qg_name sc.nd rfl loc_of) qgs_nil)) (ts_lenS (ts_lenS ts_len0)))) (fun _ _ _ _ _ => qts_nil) (fun _ _ _ _ _ => (qe_and (qe_call ((ok_is_part h).mono (by decide)) hr rfl h.G12 h.F12.kp (b_is_part h) LamX.takes0 (qa_cons (qv 5) (qa_cons (qv 3) qa_nil))) (qe_one (qe_or (qe_cmp (op_neD hr.units) p_ne (qv 5) (qv 3) (nomark _)) (qe_one (qe_cmp op_lt p_lt (qv 4) (qv 2) (nomark _)))))))) qa_nil)))) (qss_one (qs_expr (qe_app (i := 1) rfl (by first | exact Or.inl rfl | exact Or.inr (Or.inl rfl) | exact Or.inr (Or.inr rfl)) (qv 3)))) qss_nil)))
    (qss_one (qs_ret (qe_callTy call_tuple_of p_tuple rfl h.B_tuple rfl (qa_cons (qv 1) qa_nil)))))))
theorem sc_given_lot : FnScope ["clauses", "lot"] ["clauses", "lot"] (defScope s_given_lot) := ⟨rfl, rfl, rfl, by decide +kernel, rfl, by decide +kernel, by decide +kernel⟩
theorem b_given_lot (h : Hs K mg base fa fdd tb) : Binds K (fdd 17) ["clauses", "lot"] [] := h.F17.bindsN fun _ _ _ _ _ _ us hl => match us, hl with
  | [_, _], _ => rfl
def m_given_lot : M Fl :=
    (sSeq (sDrop (mCall g_check_clauses [.pl] (aCons (mV 0) aNil)))
    (sSeq (sDrop (mCall g_check_lot [.pl] (aCons (mV 1) aNil)))
    (sRet (mCall g_left_by [.pl, .pl] (aCons (mV 0) (aCons (mV 1) aNil))))))
def g_given_lot : List D → FR := runD [.pl, .pl] 0 m_given_lot
theorem ok_given_lot (h : Hs K mg base fa fdd tb) : FnOk P w K mg base (L2.CX P w) 6 (fa 17) (fdd 17) ["clauses", "lot"] (spV K cn tb [.pl, .pl] g_given_lot) :=
  fn_okC h.F17 sc_given_lot rfl (by decide) fun cdv A outer s H E F hcd hr hcn htb tk => by
    subst hcn htb
    have sc := sc_given_lot
    exact (qss_cons (qs_expr (qe_call ((ok_check_clauses h).mono (by decide)) hr rfl h.G6 h.F6.kp (b_check_clauses h) tk (qa_cons (qv 0) qa_nil)))
    (qss_cons (qs_expr (qe_call ((ok_check_lot h).mono (by decide)) hr rfl h.G16 h.F16.kp (b_check_lot h) tk (qa_cons (qv 1) qa_nil)))
    (qss_one (qs_ret (qe_call ((ok_left_by h).mono (by decide)) hr rfl h.G14 h.F14.kp (b_left_by h) tk (qa_cons (qv 0) (qa_cons (qv 1) qa_nil)))))))
theorem sc_turned_atoms : FnScope ["clauses", "row", "found", "clause", "one"] ["clauses", "row"] (defScope s_turned_atoms) := ⟨rfl, rfl, rfl, by decide +kernel, rfl, by decide +kernel, by decide +kernel⟩
theorem b_turned_atoms (h : Hs K mg base fa fdd tb) : Binds K (fdd 18) ["clauses", "row"] [] := h.F18.bindsN fun _ _ _ _ _ _ us hl => match us, hl with
  | [_, _], _ => rfl
def m_turned_atoms_1 : M Op :=
    (mIf (mT (m2 fGt (mV 4) (mC (.int 0)))) (m2 fIx (mV 1) (m2 fSub (mV 4) (mC (.int 1)))) (m1 fNeg (m2 fIx (mV 1) (m2 fSub (m1 fNeg (mV 4)) (mC (.int 1))))))
def m_turned_atoms_2 : M Fl :=
    (sDrop (meApp 2 (mK (mCall g_joined [.pl] (aCons (mLc (iSeqM (mV 3)) (tName 4) tYesM m_turned_atoms_1 [4]) aNil)))))
def m_turned_atoms : M Fl :=
    (sSeq (sDrop (mCall g_check_clauses [.pl] (aCons (mV 0) aNil)))
    (sSeq (sIf (mNot (mTr (mCall g_is_names [.pl, .pl] (aCons (mV 1) (aCons (mCall g_many_in [.pl] (aCons (mV 0) aNil)) aNil))))) sNo sNx)
    (sSeq (sSet 2 (mLst kNil))
    (sSeq (sFor (iSeqM (mV 0)) (tName 3) m_turned_atoms_2)
    (sRet (mB (f1 fTuple) (aCons (mV 2) aNil)))))))
def g_turned_atoms : List D → FR := runD [.pl, .pl] 3 m_turned_atoms
theorem ok_turned_atoms (h : Hs K mg base fa fdd tb) : FnOk P w K mg base (L2.CX P w) 6 (fa 18) (fdd 18) ["clauses", "row"] (spV K cn tb [.pl, .pl] g_turned_atoms) :=
  fn_okC h.F18 sc_turned_atoms rfl (by decide) fun cdv A outer s H E F hcd hr hcn htb tk => by
    subst hcn htb
    have sc := sc_turned_atoms
    exact (qss_cons (qs_expr (qe_call ((ok_check_clauses h).mono (by decide)) hr rfl h.G6 h.F6.kp (b_check_clauses h) tk (qa_cons (qv 0) qa_nil)))
    (qss_cons (qs_if (qt_not (qt_tru (qe_call ((ok_is_names h).mono (by decide)) hr rfl h.G19 h.F19.kp (b_is_names h) tk (qa_cons (qv 1) (qa_cons (qe_call ((ok_many_in h).mono (by decide)) hr rfl h.G7 h.F7.kp (b_many_in h) tk (qa_cons (qv 0) qa_nil)) qa_nil))))) (qss_one qs_no) qss_nil)
    (qss_cons (qs_set (i := 2) sc.nd rfl loc_of (qe_lst qk_nil))
    (qss_cons (qs_for (passes_of rfl) rfl (qi_seq (qv 0)) (qg_name sc.nd rfl loc_of) (qss_one (qs_expr (qe_app (i := 2) rfl (by first | exact Or.inl rfl | exact Or.inr (Or.inl rfl) | exact Or.inr (Or.inr rfl)) (qe_call ((ok_joined h).mono (by decide)) hr rfl h.G11 h.F11.kp (b_joined h) tk (qa_cons (qe_lc (own := [("one", 4)]) rfl sc.nd (qi_seq (qv 3)) (blkOk_by (by kernel_rfl)) (by decide) (fun _ _ _ _ _ => (qg_name sc.nd rfl loc_of)) (fun _ _ _ _ _ => qts_nil) (fun _ _ _ _ _ => (qe_if (qt_cmp op_gt p_gt (qv 4) qe_int (nomark _)) (qe_ix ix_seq p_ix (qv 1) (qe_op op_sub p_sub (qv 4) qe_int) (fun _ _ => rfl)) (qe_un un_neg p_neg (qe_ix ix_seq p_ix (qv 1) (qe_op op_sub p_sub (qe_un un_neg p_neg (qv 4)) qe_int) (fun _ _ => rfl)))))) qa_nil))))))
    (qss_one (qs_ret (qe_callTy call_tuple_of p_tuple rfl h.B_tuple rfl (qa_cons (qv 2) qa_nil))))))))
theorem sc__law_same : FnScope ["one", "due", "a", "b"] ["one", "due"] (defScope s__law_same) := ⟨rfl, rfl, rfl, by decide +kernel, rfl, by decide +kernel, by decide +kernel⟩
theorem b__law_same (h : Hs K mg base fa fdd tb) : Binds K (fdd 24) ["one", "due"] [] := h.F24.bindsN fun _ _ _ _ _ _ us hl => match us, hl with
  | [_, _], _ => rfl
def m__law_same_1 (n : Nat) (g__law_same : Nat → List D → FR) : M Op :=
    (mCall (g__law_same n) [.pl, .pl] (aCons (mV 2) (aCons (mV 3) aNil)))
def m__law_same (n : Nat) (g__law_same : Nat → List D → FR) : M Fl :=
    (sSeq (sIf (mOr (mT (m1 (fIsi ["tuple"]) (mV 1))) (mT (m1 (fIsi ["list"]) (mV 1)))) (sSeq (sIf (mOr (mT (m2 fNe (m1 (fIsi ["tuple"]) (mV 0)) (m1 (fIsi ["tuple"]) (mV 1)))) (mT (m2 fNe (m1 (fIsi ["list"]) (mV 0)) (m1 (fIsi ["list"]) (mV 1))))) (sRet (mC (.bool false))) sNx)
    (sRet (mAndV (mT (m2 fEq (mB (f1 fLen) (aCons (mV 0) aNil)) (mB (f1 fLen) (aCons (mV 1) aNil)))) (mB (f1 fAll) (aCons (mLc (iFnK zp (kiCons (mV 0) (kiCons (mV 1) kiNil))) (tTup (tsCons (tName 2) (tsCons (tName 3) tsNil))) tYesM (m__law_same_1 n g__law_same) [2, 3]) aNil))))) sNx)
    (sSeq (sIf (mOr (mT (m2 fNe (m1 (fIsi ["bool"]) (mV 0)) (m1 (fIsi ["bool"]) (mV 1)))) (mT (m2 fNe (m2 fIs (mV 0) (mC .none)) (m2 fIs (mV 1) (mC .none))))) (sRet (mC (.bool false))) sNx)
    (sRet (mAndV (mT (m2 fEq (m1 (fIsi ["int", "bool"]) (mV 0)) (m1 (fIsi ["int", "bool"]) (mV 1)))) (m2 fEq (mV 0) (mV 1))))))
def g__law_same : Nat → List D → FR
  | 0 => fun _ => .no
  | n + 1 => runD [.pl, .pl] 2 (m__law_same n fun _ => g__law_same n)
theorem ok__law_same (h : Hs K mg base fa fdd tb) : ∀ n : Nat, FnOk P w K mg base (L2.CX P w) (n + 1) (fa 24) (fdd 24) ["one", "due"] (spV K cn tb [.pl, .pl] (g__law_same n))
  | 0 => (fn_no h.F24 sc__law_same rfl).mono (Nat.le_add_left ..)
  | n + 1 => by
    have ih0 := @ok__law_same h n
    rw [show n + 1 + 1 = (n + 1) + 1 from by omega]
    exact fn_okC h.F24 sc__law_same rfl (by decide) fun cdv A outer s H E F hcd hr hcn htb tk => by
      subst hcn htb
      have sc := sc__law_same
      have ih := ih0
      exact (qss_cons (qs_if (qt_w (qw_or (qt_val (qe_isi isi_tuple rfl h.B_isinstance rfl h.B_tuple rfl (qv 1))) (qw_or1 (qt_val (qe_isi isi_list rfl h.B_isinstance rfl h.B_list rfl (qv 1)))))) (qss_cons (qs_if (qt_w (qw_or (qt_cmp (op_neD hr.units) p_ne (qe_isi isi_tuple rfl h.B_isinstance rfl h.B_tuple rfl (qv 0)) (qe_isi isi_tuple rfl h.B_isinstance rfl h.B_tuple rfl (qv 1)) (nomark _)) (qw_or1 (qt_cmp (op_neD hr.units) p_ne (qe_isi isi_list rfl h.B_isinstance rfl h.B_list rfl (qv 0)) (qe_isi isi_list rfl h.B_isinstance rfl h.B_list rfl (qv 1)) (nomark _))))) (qss_one (qs_ret qe_bl)) qss_nil)
    (qss_one (qs_ret (qe_and (qe_cmp (op_eqD hr.units) p_eq (qe_callB c_len p_len rfl h.B_len rfl (qa_cons (qv 0) qa_nil)) (qe_callB c_len p_len rfl h.B_len rfl (qa_cons (qv 1) qa_nil)) (nomark _)) (qe_one (qe_callB (cr_all rfl) p_all rfl h.B_all rfl (qa_cons (qe_lc (own := [("a", 2), ("b", 3)]) rfl sc.nd (qi_zip rfl h.B_zip (qki_cons (qv 0) (qki_cons (qv 1) qki_nil))) (blkOk_by (by kernel_rfl)) (by decide) (fun _ _ _ _ _ => (qg_tup rfl (qgs_cons (qg_name sc.nd rfl loc_of) (qgs_cons (qg_name sc.nd rfl loc_of) qgs_nil)) (ts_lenS (ts_lenS ts_len0)))) (fun _ _ _ _ _ => qts_nil) (fun _ _ _ _ _ => (qe_call ih hr rfl h.G24 h.F24.kp (b__law_same h) LamX.takes0 (qa_cons (qv 2) (qa_cons (qv 3) qa_nil))))) qa_nil))))))) qss_nil)
    (qss_cons (qs_if (qt_w (qw_or (qt_cmp (op_neD hr.units) p_ne (qe_isi isi_bool rfl h.B_isinstance rfl h.B_bool rfl (qv 0)) (qe_isi isi_bool rfl h.B_isinstance rfl h.B_bool rfl (qv 1)) (nomark _)) (qw_or1 (qt_cmp (op_neD hr.units) p_ne (qe_cmp o_is p_is (qv 0) qe_non (nomark _)) (qe_cmp o_is p_is (qv 1) qe_non (nomark _)) (nomark _))))) (qss_one (qs_ret qe_bl)) qss_nil)
    (qss_one (qs_ret (qe_and (qe_cmp (op_eqD hr.units) p_eq (qe_isi isi_int rfl h.B_isinstance rfl h.B_int rfl (qv 0)) (qe_isi isi_int rfl h.B_isinstance rfl h.B_int rfl (qv 1)) (nomark _)) (qe_one (qe_cmp (op_eqD hr.units) p_eq (qv 0) (qv 1) (nomark _))))))))
theorem sc__law_is_lot_right : FnScope ["hand", "lot_row", "lot", "heard", "world", "more", "two_lots", "flags", "one", "some"] ["hand", "lot_row", "lot"] (defScope s__law_is_lot_right) := ⟨rfl, rfl, rfl, by decide +kernel, rfl, by decide +kernel, by decide +kernel⟩
theorem b__law_is_lot_right (h : Hs K mg base fa fdd tb) : Binds K (fdd 36) ["hand", "lot_row", "lot"] [] := h.F36.bindsN fun _ _ _ _ _ _ us hl => match us, hl with
  | [_, _, _], _ => rfl
def m__law_is_lot_right_1 : M Bool :=
    (mAnd (mT (m2 fNotIn (mV 8) (mV 2))) (mT (m2 fNotIn (m2 fSub (mC (.int 0)) (mV 8)) (mV 2))))
def m__law_is_lot_right_2 : M Op :=
    (mV 8)
def m__law_is_lot_right_3 : M Op :=
    (m2 fEq (m2 fIx (mV 4) (m2 fSub (mB (f1 fAbs) (aCons (mV 8) aNil)) (mC (.int 1)))) (mB (f1 fInt) (aCons (m2 fGt (mV 8) (mC (.int 0))) aNil)))
def m__law_is_lot_right_4 : M Op :=
    (mCall g__law_breaks [.pl, .pl] (aCons (mV 8) (aCons (mV 4) aNil)))
def m__law_is_lot_right_5 : M Op :=
    (mB (f1 fAny) (aCons (mLc (iSeqM (mV 9)) (tName 8) tYesM m__law_is_lot_right_4 [8]) aNil))
def m__law_is_lot_right_6 : M Fl :=
    (sIf (mT (mB (f1 fAll) (aCons (mLc (iSeqM (mV 2)) (tName 8) tYesM m__law_is_lot_right_3 [8]) aNil))) (sSeq (sSet 7 (mLc (iSeqM (mTup (kCons (mV 1) (kCons (mV 3) kNil)))) (tName 9) tYesM m__law_is_lot_right_5 [9]))
    (sIf (mT (m2 fNe (m2 fIx (mV 7) (mC (.int 0))) (m2 fIx (mV 7) (mC (.int 1))))) (sRet (mC (.bool false))) sNx)) sNx)
def m__law_is_lot_right : M Fl :=
    (sSeq (sSet 3 (mCall g_given_lot [.pl, .pl] (aCons (mV 1) (aCons (mV 2) aNil))))
    (sSeq (sIf (mNot (mTr (mCall (g__law_same 12) [.pl, .pl] (aCons (mV 3) (aCons (mCall g__law_left [.pl, .pl] (aCons (mV 1) (aCons (mV 2) aNil))) aNil))))) (sRet (mC (.bool false))) sNx)
    (sSeq (sFor (iSeqM (mCall g__law_worlds [.pl] (aCons (mB fMax (aCons (mLst (kCons (mC (.int 4)) (kCons (mCall g__law_many [.pl] (aCons (mV 1) aNil)) kNil))) aNil)) aNil))) (tName 4) m__law_is_lot_right_6)
    (sSeq (sSet 5 (mB (f1 fTuple) (aCons (mLc (iSeqM (mCall g__law_clause [.mu, .pl, .pl] (aCons (mV 0) (aCons (mC (.int 4)) (aCons (mC (.int 3)) aNil))))) (tName 8) m__law_is_lot_right_1 m__law_is_lot_right_2 [8]) aNil)))
    (sSeq (sSet 6 (mB (f1 fTuple) (aCons (m1 (fSrtK kAbs) (m2 fAdd (mV 2) (mV 5))) aNil)))
    (sRet (m2 fEq (mCall g_given_lot [.pl, .pl] (aCons (mV 1) (aCons (mV 6) aNil))) (mCall g_given_lot [.pl, .pl] (aCons (mV 3) (aCons (mV 5) aNil))))))))))
def g__law_is_lot_right : List D → FR := runD [.mu, .pl, .pl] 7 m__law_is_lot_right
theorem ok__law_is_lot_right (h : Hs K mg base fa fdd tb) : FnOk P w K mg base (L2.CX P w) 14 (fa 36) (fdd 36) ["hand", "lot_row", "lot"] (spV K cn tb [.mu, .pl, .pl] g__law_is_lot_right) :=
  fn_okC h.F36 sc__law_is_lot_right rfl (by decide) fun cdv A outer s H E F hcd hr hcn htb tk => by
    subst hcn htb
    have sc := sc__law_is_lot_right
    exact (qss_cons (qs_set (i := 3) sc.nd rfl loc_of (qe_call ((ok_given_lot h).mono (by decide)) hr rfl h.G17 h.F17.kp (b_given_lot h) tk (qa_cons (qv 1) (qa_cons (qv 2) qa_nil))))
    (qss_cons (qs_if (qt_not (qt_tru (qe_call ((ok__law_same h 12).mono (by decide)) hr rfl h.G24 h.F24.kp (b__law_same h) tk (qa_cons (qv 3) (qa_cons (qe_call ((ok__law_left h).mono (by decide)) hr rfl h.G35 h.F35.kp (b__law_left h) tk (qa_cons (qv 1) (qa_cons (qv 2) qa_nil))) qa_nil))))) (qss_one (qs_ret qe_bl)) qss_nil)
    (qss_cons (qs_for (passes_of rfl) rfl (qi_seq (qe_call ((ok__law_worlds h).mono (by decide)) hr rfl h.G29 h.F29.kp (b__law_worlds h) tk (qa_cons (qe_callB (c_max rfl) p_max rfl h.B_max rfl (qa_cons (qe_lst (qk_cons qe_int (qk_cons (qe_call ((ok__law_many h).mono (by decide)) hr rfl h.G27 h.F27.kp (b__law_many h) tk (qa_cons (qv 1) qa_nil)) qk_nil))) qa_nil)) qa_nil))) (qg_name sc.nd rfl loc_of) (qss_one (qs_if (qt_val (qe_callB (cr_all rfl) p_all rfl h.B_all rfl (qa_cons (qe_lc (own := [("one", 8)]) rfl sc.nd (qi_seq (qv 2)) (blkOk_by (by kernel_rfl)) (by decide) (fun _ _ _ _ _ => (qg_name sc.nd rfl loc_of)) (fun _ _ _ _ _ => qts_nil) (fun _ _ _ _ _ => (qe_cmp (op_eqD hr.units) p_eq (qe_ix ix_seq p_ix (qv 4) (qe_op op_sub p_sub (qe_callB call_abs p_abs rfl h.B_abs rfl (qa_cons (qv 8) qa_nil)) qe_int) (fun _ _ => rfl)) (qe_callTy call_int1 p_int rfl h.B_int rfl (qa_cons (qe_cmp op_gt p_gt (qv 8) qe_int (nomark _)) qa_nil)) (nomark _)))) qa_nil))) (qss_cons (qs_setLc (i := 7) (own := [("some", 9)]) rfl sc.nd rfl rfl rfl (qi_seq (qe_tup (qk_cons (qv 1) (qk_cons (qv 3) qk_nil)))) (blkOk_by (by kernel_rfl)) (by decide) (fun _ _ _ _ _ => (qg_name sc.nd rfl loc_of)) (fun _ _ _ _ _ => qts_nil) (fun _ _ _ _ _ => (qe_callB (cr_any rfl) p_any rfl h.B_any rfl (qa_cons (qe_lc (own := [("one", 8)]) rfl sc.nd (qi_seq (qv 9)) (blkOk_by (by kernel_rfl)) (by decide) (fun _ _ _ _ _ => (qg_name sc.nd rfl loc_of)) (fun _ _ _ _ _ => qts_nil) (fun _ _ _ _ _ => (qe_call ((ok__law_breaks h).mono (by decide)) hr rfl h.G30 h.F30.kp (b__law_breaks h) LamX.takes0 (qa_cons (qv 8) (qa_cons (qv 4) qa_nil))))) qa_nil))))
    (qss_one (qs_if (qt_cmp (op_neD hr.units) p_ne (qe_ix ix_seq p_ix (qv 7) qe_int (fun _ _ => rfl)) (qe_ix ix_seq p_ix (qv 7) qe_int (fun _ _ => rfl)) (nomark _)) (qss_one (qs_ret qe_bl)) qss_nil))) qss_nil)))
    (qss_cons (qs_set (i := 5) sc.nd rfl loc_of (qe_callTy call_tuple_of p_tuple rfl h.B_tuple rfl (qa_cons (qe_lc (own := [("one", 8)]) rfl sc.nd (qi_seq (qe_call ((ok__law_clause h).mono (by decide)) hr rfl h.G25 h.F25.kp (b__law_clause h) tk (qa_cons (qv 0) (qa_cons qe_int (qa_cons qe_int qa_nil))))) (blkOk_by (by kernel_rfl)) (by decide) (fun _ _ _ _ _ => (qg_name sc.nd rfl loc_of)) (fun _ _ _ _ _ => (qts_one (qt_w (qw_and (qt_cmp (o_notIn (u65 hr)) p_notIn (qv 8) (qv 2) rfl) (qw_and1 (qt_cmp (o_notIn (u65 hr)) p_notIn (qe_op op_sub p_sub qe_int (qv 8)) (qv 2) rfl)))))) (fun _ _ _ _ _ => (qv 8))) qa_nil)))
    (qss_cons (qs_set (i := 6) sc.nd rfl loc_of (qe_callTy call_tuple_of p_tuple rfl h.B_tuple rfl (qa_cons (qe_sortK rfl hr.units rfl h.B_sorted (qe_op o_add p_add (qv 2) (qv 5)) (ke_abs rfl h.B_abs)) qa_nil)))
    (qss_one (qs_ret (qe_cmp (op_eqD hr.units) p_eq (qe_call ((ok_given_lot h).mono (by decide)) hr rfl h.G17 h.F17.kp (b_given_lot h) tk (qa_cons (qv 1) (qa_cons (qv 6) qa_nil))) (qe_call ((ok_given_lot h).mono (by decide)) hr rfl h.G17 h.F17.kp (b_given_lot h) tk (qa_cons (qv 3) (qa_cons (qv 5) qa_nil))) (nomark _)))))))))
theorem sc__law_is_turned_right : FnScope ["hand", "lot_row", "row", "heard", "due", "own", "back", "there", "world", "many", "atoms_here", "at", "one", "models", "found", "clause", "atom"] ["hand", "lot_row"] (defScope s__law_is_turned_right) := ⟨rfl, rfl, rfl, by decide +kernel, rfl, by decide +kernel, by decide +kernel⟩
theorem b__law_is_turned_right (h : Hs K mg base fa fdd tb) : Binds K (fdd 37) ["hand", "lot_row"] [] := h.F37.bindsN fun _ _ _ _ _ _ us hl => match us, hl with
  | [_, _], _ => rfl
def m__law_is_turned_right_1 : M Op :=
    (mIf (mT (m2 fGt (mV 12) (mC (.int 0)))) (m2 fIx (mV 8) (m2 fSub (mB (f1 fAbs) (aCons (mV 12) aNil)) (mC (.int 1)))) (m2 fSub (mC (.int 1)) (m2 fIx (mV 8) (m2 fSub (mB (f1 fAbs) (aCons (mV 12) aNil)) (mC (.int 1))))))
def m__law_is_turned_right_2 : M Fl :=
    (sIf (mT (m2 fIn (mB (f1 fTuple) (aCons (mLc (iSeqM (mV 5)) (tName 12) tYesM m__law_is_turned_right_1 [12]) aNil)) (mV 13))) (sDrop (meApp 14 (mK (mV 8)))) sNx)
def m__law_is_turned_right_3 : M Fl :=
    (sSetIx 6 (mK (m2 fMul (m2 fAdd (mV 11) (mC (.int 1))) (mIf (mT (m2 fGt (mV 12) (mC (.int 0)))) (mC (.int 1)) (m1 fNeg (mC (.int 1)))))) (m2 fSub (mB (f1 fAbs) (aCons (mV 12) aNil)) (mC (.int 1))))
def m__law_is_turned_right_4 : M Op :=
    (m2 fMul (mCall g__law_any [.mu, .pl] (aCons (mV 0) (aCons (mLst (kCons (mC (.int 1)) (kCons (m1 fNeg (mC (.int 1))) kNil))) aNil))) (mV 16))
def m__law_is_turned_right_5 : M Op :=
    (m2 fMul (m2 fIx (mV 2) (m2 fSub (mB (f1 fAbs) (aCons (mV 12) aNil)) (mC (.int 1)))) (mIf (mT (m2 fGt (mV 12) (mC (.int 0)))) (mC (.int 1)) (m1 fNeg (mC (.int 1)))))
def m__law_is_turned_right_6 : M Op :=
    (mCall g__law_joined [.pl] (aCons (mLc (iSeqM (mV 15)) (tName 12) tYesM m__law_is_turned_right_5 [12]) aNil))
def m__law_is_turned_right_7 : M Op :=
    (m2 fMul (mCall g__law_any [.mu, .pl] (aCons (mV 0) (aCons (mLst (kCons (mC (.int 1)) (kCons (m1 fNeg (mC (.int 1))) kNil))) aNil))) (mV 16))
def m__law_is_turned_right : M Fl :=
    (sSeq (sPar 9 10 (mCall g__law_many [.pl] (aCons (mV 1) aNil)) (mCall g__law_mixed [.mu, .pl] (aCons (mV 0) (aCons (mRg (mC (.int 1)) (mC (.int 13))) aNil))))
    (sSeq (sSet 2 (mB (f1 fTuple) (aCons (mLc (iSeqM (mSl fSl (mV 10) bNo (bAt (mV 9)))) (tName 16) tYesM m__law_is_turned_right_7 [16]) aNil)))
    (sSeq (sSet 3 (mCall g_turned_atoms [.pl, .pl] (aCons (mV 1) (aCons (mV 2) aNil))))
    (sSeq (sSet 4 (mLc (iSeqM (mV 1)) (tName 15) tYesM m__law_is_turned_right_6 [15]))
    (sSeq (sIf (mNot (mTr (mCall (g__law_same 12) [.pl, .pl] (aCons (mV 3) (aCons (mB (f1 fTuple) (aCons (mV 4) aNil)) aNil))))) (sRet (mC (.bool false))) sNx)
    (sSeq (sSet 5 (mB (f1 fTuple) (aCons (mLc (iSeqM (mCall g__law_mixed [.mu, .pl] (aCons (mV 0) (aCons (mRg (mC (.int 1)) (m2 fAdd (mV 9) (mC (.int 1)))) aNil)))) (tName 16) tYesM m__law_is_turned_right_4 [16]) aNil)))
    (sSeq (sSet 6 (m2F fRep (mLst (kCons (mC (.int 0)) kNil)) (mV 9)))
    (sSeq (sFor (iFnK enm (kiCons (mV 5) kiNil)) (tTup (tsCons (tName 11) (tsCons (tName 12) tsNil))) m__law_is_turned_right_3)
    (sSeq (sSet 7 (mCall g_turned_atoms [.pl, .pl] (aCons (mV 1) (aCons (mV 5) aNil))))
    (sSeq (sIf (mAnd (mT (m2 fEq (mCall g__law_many [.pl] (aCons (mV 7) aNil)) (mV 9))) (mT (m2 fNe (mCall g_turned_atoms [.pl, .pl] (aCons (mV 7) (aCons (mB (f1 fTuple) (aCons (mV 6) aNil)) aNil))) (mV 1)))) (sRet (mC (.bool false))) sNx)
    (sSeq (sIf (mT (m2 fNe (mCall g__law_many [.pl] (aCons (mV 7) aNil)) (mV 9))) (sRet (mC (.bool true))) sNx)
    (sSeq (sPar 13 14 (mCall g__law_models [.pl] (aCons (mV 1) aNil)) (mLst kNil))
    (sSeq (sFor (iSeqM (mCall g__law_worlds [.pl] (aCons (mV 9) aNil))) (tName 8) m__law_is_turned_right_2)
    (sRet (mCall (g__law_same 12) [.pl, .pl] (aCons (mCall g_models_of [.pl] (aCons (mV 7) aNil)) (aCons (mV 14) aNil)))))))))))))))))
def g__law_is_turned_right : List D → FR := runD [.mu, .pl] 15 m__law_is_turned_right
theorem ok__law_is_turned_right (h : Hs K mg base fa fdd tb) : FnOk P w K mg base (L2.CX P w) 14 (fa 37) (fdd 37) ["hand", "lot_row"] (spV K cn tb [.mu, .pl] g__law_is_turned_right) :=
  fn_okC h.F37 sc__law_is_turned_right rfl (by decide) fun cdv A outer s H E F hcd hr hcn htb tk => by
    subst hcn htb
    have sc := sc__law_is_turned_right
    exact (qss_cons (qs_par (i := 9) (j := 10) rfl sc.nd rfl rfl (by decide) rfl rfl (qe_call ((ok__law_many h).mono (by decide)) hr rfl h.G27 h.F27.kp (b__law_many h) tk (qa_cons (qv 1) qa_nil)) (qe_call ((ok__law_mixed h).mono (by decide)) hr rfl h.G23 h.F23.kp (b__law_mixed h) tk (qa_cons (qv 0) (qa_cons (qe_listRg rfl rfl h.B_list rfl h.B_range qe_int qe_int) qa_nil))) rfl)
    (qss_cons (qs_set (i := 2) sc.nd rfl loc_of (qe_callTy call_tuple_of p_tuple rfl h.B_tuple rfl (qa_cons (qe_lc (own := [("atom", 16)]) rfl sc.nd (qi_seq (qe_sl s_sl p_sl (qv 10) qo_none (qo_some (qv 9)))) (blkOk_by (by kernel_rfl)) (by decide) (fun _ _ _ _ _ => (qg_name sc.nd rfl loc_of)) (fun _ _ _ _ _ => qts_nil) (fun _ _ _ _ _ => (qe_op op_mulX p_mul (qe_call ((ok__law_any h).mono (by decide)) hr rfl h.G22 h.F22.kp (b__law_any h) LamX.takes0 (qa_cons (qv 0) (qa_cons (qe_lst (qk_cons qe_int (qk_cons (qe_un un_neg p_neg qe_int) qk_nil))) qa_nil))) (qv 16)))) qa_nil)))
    (qss_cons (qs_set (i := 3) sc.nd rfl loc_of (qe_call ((ok_turned_atoms h).mono (by decide)) hr rfl h.G18 h.F18.kp (b_turned_atoms h) tk (qa_cons (qv 1) (qa_cons (qv 2) qa_nil))))
    (qss_cons (qs_setLc (i := 4) (own := [("clause", 15)]) rfl sc.nd rfl rfl rfl (qi_seq (qv 1)) (blkOk_by (by kernel_rfl)) (by decide) (fun _ _ _ _ _ => (qg_name sc.nd rfl loc_of)) (fun _ _ _ _ _ => qts_nil) (fun _ _ _ _ _ => (qe_call ((ok__law_joined h).mono (by decide)) hr rfl h.G32 h.F32.kp (b__law_joined h) LamX.takes0 (qa_cons (qe_lc (own := [("one", 12)]) rfl sc.nd (qi_seq (qv 15)) (blkOk_by (by kernel_rfl)) (by decide) (fun _ _ _ _ _ => (qg_name sc.nd rfl loc_of)) (fun _ _ _ _ _ => qts_nil) (fun _ _ _ _ _ => (qe_op op_mulX p_mul (qe_ix ix_seq p_ix (qv 2) (qe_op op_sub p_sub (qe_callB call_abs p_abs rfl h.B_abs rfl (qa_cons (qv 12) qa_nil)) qe_int) (fun _ _ => rfl)) (qe_if (qt_cmp op_gt p_gt (qv 12) qe_int (nomark _)) qe_int (qe_un un_neg p_neg qe_int))))) qa_nil))))
    (qss_cons (qs_if (qt_not (qt_tru (qe_call ((ok__law_same h 12).mono (by decide)) hr rfl h.G24 h.F24.kp (b__law_same h) tk (qa_cons (qv 3) (qa_cons (qe_callTy call_tuple_of p_tuple rfl h.B_tuple rfl (qa_cons (qv 4) qa_nil)) qa_nil))))) (qss_one (qs_ret qe_bl)) qss_nil)
    (qss_cons (qs_set (i := 5) sc.nd rfl loc_of (qe_callTy call_tuple_of p_tuple rfl h.B_tuple rfl (qa_cons (qe_lc (own := [("atom", 16)]) rfl sc.nd (qi_seq (qe_call ((ok__law_mixed h).mono (by decide)) hr rfl h.G23 h.F23.kp (b__law_mixed h) tk (qa_cons (qv 0) (qa_cons (qe_listRg rfl rfl h.B_list rfl h.B_range qe_int (qe_op o_add p_add (qv 9) qe_int)) qa_nil)))) (blkOk_by (by kernel_rfl)) (by decide) (fun _ _ _ _ _ => (qg_name sc.nd rfl loc_of)) (fun _ _ _ _ _ => qts_nil) (fun _ _ _ _ _ => (qe_op op_mulX p_mul (qe_call ((ok__law_any h).mono (by decide)) hr rfl h.G22 h.F22.kp (b__law_any h) LamX.takes0 (qa_cons (qv 0) (qa_cons (qe_lst (qk_cons qe_int (qk_cons (qe_un un_neg p_neg qe_int) qk_nil))) qa_nil))) (qv 16)))) qa_nil)))
    (qss_cons (qs_set (i := 6) sc.nd rfl loc_of (qe_rep (qe_lst (qk_cons qe_int qk_nil)) (qv 9)))
    (qss_cons (qs_for (passes_of rfl) rfl (qi_enum rfl h.B_enumerate (qki_cons (qv 5) qki_nil)) (qg_tup rfl (qgs_cons (qg_name sc.nd rfl loc_of) (qgs_cons (qg_name sc.nd rfl loc_of) qgs_nil)) (ts_lenS (ts_lenS ts_len0))) (qss_one (qs_setIx (i := 6) rfl (by first | exact Or.inl rfl | exact Or.inr (Or.inl rfl) | exact Or.inr (Or.inr rfl)) (qe_op op_mulX p_mul (qe_op o_add p_add (qv 11) qe_int) (qe_if (qt_cmp op_gt p_gt (qv 12) qe_int (nomark _)) qe_int (qe_un un_neg p_neg qe_int))) (qe_op op_sub p_sub (qe_callB call_abs p_abs rfl h.B_abs rfl (qa_cons (qv 12) qa_nil)) qe_int))))
    (qss_cons (qs_set (i := 7) sc.nd rfl loc_of (qe_call ((ok_turned_atoms h).mono (by decide)) hr rfl h.G18 h.F18.kp (b_turned_atoms h) tk (qa_cons (qv 1) (qa_cons (qv 5) qa_nil))))
    (qss_cons (qs_if (qt_w (qw_and (qt_cmp (op_eqD hr.units) p_eq (qe_call ((ok__law_many h).mono (by decide)) hr rfl h.G27 h.F27.kp (b__law_many h) tk (qa_cons (qv 7) qa_nil)) (qv 9) (nomark _)) (qw_and1 (qt_cmp (op_neD hr.units) p_ne (qe_call ((ok_turned_atoms h).mono (by decide)) hr rfl h.G18 h.F18.kp (b_turned_atoms h) tk (qa_cons (qv 7) (qa_cons (qe_callTy call_tuple_of p_tuple rfl h.B_tuple rfl (qa_cons (qv 6) qa_nil)) qa_nil))) (qv 1) (nomark _))))) (qss_one (qs_ret qe_bl)) qss_nil)
    (qss_cons (qs_if (qt_cmp (op_neD hr.units) p_ne (qe_call ((ok__law_many h).mono (by decide)) hr rfl h.G27 h.F27.kp (b__law_many h) tk (qa_cons (qv 7) qa_nil)) (qv 9) (nomark _)) (qss_one (qs_ret qe_bl)) qss_nil)
    (qss_cons (qs_par (i := 13) (j := 14) rfl sc.nd rfl rfl (by decide) rfl rfl (qe_call ((ok__law_models h).mono (by decide)) hr rfl h.G31 h.F31.kp (b__law_models h) tk (qa_cons (qv 1) qa_nil)) (qe_lst qk_nil) rfl)
    (qss_cons (qs_for (passes_of rfl) rfl (qi_seq (qe_call ((ok__law_worlds h).mono (by decide)) hr rfl h.G29 h.F29.kp (b__law_worlds h) tk (qa_cons (qv 9) qa_nil))) (qg_name sc.nd rfl loc_of) (qss_one (qs_if (qt_cmp (o_in (u65 hr)) p_in (qe_callTy call_tuple_of p_tuple rfl h.B_tuple rfl (qa_cons (qe_lc (own := [("one", 12)]) rfl sc.nd (qi_seq (qv 5)) (blkOk_by (by kernel_rfl)) (by decide) (fun _ _ _ _ _ => (qg_name sc.nd rfl loc_of)) (fun _ _ _ _ _ => qts_nil) (fun _ _ _ _ _ => (qe_if (qt_cmp op_gt p_gt (qv 12) qe_int (nomark _)) (qe_ix ix_seq p_ix (qv 8) (qe_op op_sub p_sub (qe_callB call_abs p_abs rfl h.B_abs rfl (qa_cons (qv 12) qa_nil)) qe_int) (fun _ _ => rfl)) (qe_op op_sub p_sub qe_int (qe_ix ix_seq p_ix (qv 8) (qe_op op_sub p_sub (qe_callB call_abs p_abs rfl h.B_abs rfl (qa_cons (qv 12) qa_nil)) qe_int) (fun _ _ => rfl)))))) qa_nil)) (qv 13) rfl) (qss_one (qs_expr (qe_app (i := 14) rfl (by first | exact Or.inl rfl | exact Or.inr (Or.inl rfl) | exact Or.inr (Or.inr rfl)) (qv 8)))) qss_nil)))
    (qss_one (qs_ret (qe_call ((ok__law_same h 12).mono (by decide)) hr rfl h.G24 h.F24.kp (b__law_same h) tk (qa_cons (qe_call ((ok_models_of h).mono (by decide)) hr rfl h.G10 h.F10.kp (b_models_of h) tk (qa_cons (qv 7) qa_nil)) (qa_cons (qv 14) qa_nil))))))))))))))))))
theorem sc_law : FnScope ["script", "hand", "lap", "lot_row", "thin", "world", "one"] ["script"] (defScope s_law) := ⟨rfl, rfl, rfl, by decide +kernel, rfl, by decide +kernel, by decide +kernel⟩
theorem b_law (h : Hs K mg base fa fdd tb) : Binds K (fdd 38) ["script"] [] := h.F38.bindsN fun _ _ _ _ _ _ us hl => match us, hl with
  | [_], _ => rfl
def m_law_1 : M Op :=
    (mCall g__law_breaks [.pl, .pl] (aCons (mV 6) (aCons (mV 5) aNil)))
def m_law_2 : M Op :=
    (mCall g__law_breaks [.pl, .pl] (aCons (mV 6) (aCons (mV 5) aNil)))
def m_law_3 : M Fl :=
    (sIf (mT (m2 fNe (mB (f1 fAny) (aCons (mLc (iSeqM (mV 3)) (tName 6) tYesM m_law_1 [6]) aNil)) (mB (f1 fAny) (aCons (mLc (iSeqM (mV 4)) (tName 6) tYesM m_law_2 [6]) aNil)))) (sRet (mC (.bool false))) sNx)
def m_law_4 : M Fl :=
    (sSeq (sSet 3 (mCall g__law_clauses [.mu] (aCons (mV 1) aNil)))
    (sSeq (sSet 4 (mCall g_thinned [.pl] (aCons (mV 3) aNil)))
    (sSeq (sIf (mOr (mNot (mTr (mCall (g__law_same 12) [.pl, .pl] (aCons (mV 4) (aCons (mCall g__law_thin [.pl] (aCons (mV 3) aNil)) aNil))))) (mT (m2 fNe (mCall g_thinned [.pl] (aCons (mV 4) aNil)) (mV 4)))) (sRet (mC (.bool false))) sNx)
    (sSeq (sFor (iSeqM (mCall g__law_worlds [.pl] (aCons (mCall g__law_many [.pl] (aCons (mV 3) aNil)) aNil))) (tName 5) m_law_3)
    (sIf (mOr (mNot (mTr (mCall g__law_is_lot_right [.mu, .pl, .pl] (aCons (mV 1) (aCons (mV 3) (aCons (mCall g__law_clause [.mu, .pl, .pl] (aCons (mV 1) (aCons (mC (.int 4)) (aCons (mC (.int 3)) aNil)))) aNil)))))) (mNot (mTr (mCall g__law_is_turned_right [.mu, .pl] (aCons (mV 1) (aCons (mV 3) aNil)))))) (sRet (mC (.bool false))) sNx)))))
def m_law : M Fl :=
    (sSeq (sSet 1 (mCall g__law_hand [.pl] (aCons (mV 0) aNil)))
    (sSeq (sIf (mNot (mTr (mCall (g__law_same 12) [.pl, .pl] (aCons (mLst (kCons (mCall g_thinned [.pl] (aCons (mTup (kCons (mTup (kCons (mC (.int 1)) (kCons (mC (.int 2)) kNil))) (kCons (mTup (kCons (mC (.int 1)) kNil)) (kCons (mTup (kCons (mC (.int 1)) kNil)) kNil)))) aNil)) (kCons (mCall g_given_lot [.pl, .pl] (aCons (mTup (kCons (mTup (kCons (mC (.int 1)) (kCons (mC (.int 2)) kNil))) (kCons (mTup (kCons (m1 fNeg (mC (.int 1))) (kCons (mC (.int 3)) kNil))) kNil))) (aCons (mTup (kCons (mC (.int 1)) kNil)) aNil))) (kCons (mCall g_turned_atoms [.pl, .pl] (aCons (mTup (kCons (mTup (kCons (mC (.int 1)) (kCons (m1 fNeg (mC (.int 2))) kNil))) kNil)) (aCons (mTup (kCons (m1 fNeg (mC (.int 3))) (kCons (mC (.int 1)) kNil))) aNil))) kNil)))) (aCons (mLst (kCons (mTup (kCons (mTup (kCons (mC (.int 1)) kNil)) kNil)) (kCons (mTup (kCons (mTup (kCons (mC (.int 3)) kNil)) kNil)) (kCons (mTup (kCons (mTup (kCons (m1 fNeg (mC (.int 1))) (kCons (m1 fNeg (mC (.int 3))) kNil))) kNil)) kNil)))) aNil))))) (sRet (mC (.bool false))) sNx)
    (sSeq (sFor (iFn rng1 (aCons (mC (.int 5)) aNil)) (tName 2) m_law_4)
    (sRet (mC (.bool true))))))
def g_law : List D → FR := runD [.pl] 6 m_law
theorem ok_law (h : Hs K mg base fa fdd tb) : FnOk P w K mg base (L2.CX P w) 15 (fa 38) (fdd 38) ["script"] (spV K cn tb [.pl] g_law) :=
  fn_okC h.F38 sc_law rfl (by decide) fun cdv A outer s H E F hcd hr hcn htb tk => by
    subst hcn htb
    have sc := sc_law
    exact (qss_cons (qs_set (i := 1) sc.nd rfl loc_of (qe_call ((ok__law_hand h).mono (by decide)) hr rfl h.G20 h.F20.kp (b__law_hand h) tk (qa_cons (qv 0) qa_nil)))
    (qss_cons (qs_if (qt_not (qt_tru (qe_call ((ok__law_same h 12).mono (by decide)) hr rfl h.G24 h.F24.kp (b__law_same h) tk (qa_cons (qe_lst (qk_cons (qe_call ((ok_thinned h).mono (by decide)) hr rfl h.G13 h.F13.kp (b_thinned h) tk (qa_cons (qe_tup (qk_cons (qe_tup (qk_cons qe_int (qk_cons qe_int qk_nil))) (qk_cons (qe_tup (qk_cons qe_int qk_nil)) (qk_cons (qe_tup (qk_cons qe_int qk_nil)) qk_nil)))) qa_nil)) (qk_cons (qe_call ((ok_given_lot h).mono (by decide)) hr rfl h.G17 h.F17.kp (b_given_lot h) tk (qa_cons (qe_tup (qk_cons (qe_tup (qk_cons qe_int (qk_cons qe_int qk_nil))) (qk_cons (qe_tup (qk_cons (qe_un un_neg p_neg qe_int) (qk_cons qe_int qk_nil))) qk_nil))) (qa_cons (qe_tup (qk_cons qe_int qk_nil)) qa_nil))) (qk_cons (qe_call ((ok_turned_atoms h).mono (by decide)) hr rfl h.G18 h.F18.kp (b_turned_atoms h) tk (qa_cons (qe_tup (qk_cons (qe_tup (qk_cons qe_int (qk_cons (qe_un un_neg p_neg qe_int) qk_nil))) qk_nil)) (qa_cons (qe_tup (qk_cons (qe_un un_neg p_neg qe_int) (qk_cons qe_int qk_nil))) qa_nil))) qk_nil)))) (qa_cons (qe_lst (qk_cons (qe_tup (qk_cons (qe_tup (qk_cons qe_int qk_nil)) qk_nil)) (qk_cons (qe_tup (qk_cons (qe_tup (qk_cons qe_int qk_nil)) qk_nil)) (qk_cons (qe_tup (qk_cons (qe_tup (qk_cons (qe_un un_neg p_neg qe_int) (qk_cons (qe_un un_neg p_neg qe_int) qk_nil))) qk_nil)) qk_nil)))) qa_nil))))) (qss_one (qs_ret qe_bl)) qss_nil)
    (qss_cons (qs_for (passes_of rfl) rfl (qi_range1 rfl h.B_range (qa_cons qe_int qa_nil)) (qg_name sc.nd rfl loc_of) (qss_cons (qs_set (i := 3) sc.nd rfl loc_of (qe_call ((ok__law_clauses h).mono (by decide)) hr rfl h.G26 h.F26.kp (b__law_clauses h) tk (qa_cons (qv 1) qa_nil)))
    (qss_cons (qs_set (i := 4) sc.nd rfl loc_of (qe_call ((ok_thinned h).mono (by decide)) hr rfl h.G13 h.F13.kp (b_thinned h) tk (qa_cons (qv 3) qa_nil)))
    (qss_cons (qs_if (qt_w (qw_or (qt_not (qt_tru (qe_call ((ok__law_same h 12).mono (by decide)) hr rfl h.G24 h.F24.kp (b__law_same h) tk (qa_cons (qv 4) (qa_cons (qe_call ((ok__law_thin h).mono (by decide)) hr rfl h.G34 h.F34.kp (b__law_thin h) tk (qa_cons (qv 3) qa_nil)) qa_nil))))) (qw_or1 (qt_cmp (op_neD hr.units) p_ne (qe_call ((ok_thinned h).mono (by decide)) hr rfl h.G13 h.F13.kp (b_thinned h) tk (qa_cons (qv 4) qa_nil)) (qv 4) (nomark _))))) (qss_one (qs_ret qe_bl)) qss_nil)
    (qss_cons (qs_for (passes_of rfl) rfl (qi_seq (qe_call ((ok__law_worlds h).mono (by decide)) hr rfl h.G29 h.F29.kp (b__law_worlds h) tk (qa_cons (qe_call ((ok__law_many h).mono (by decide)) hr rfl h.G27 h.F27.kp (b__law_many h) tk (qa_cons (qv 3) qa_nil)) qa_nil))) (qg_name sc.nd rfl loc_of) (qss_one (qs_if (qt_cmp (op_neD hr.units) p_ne (qe_callB (cr_any rfl) p_any rfl h.B_any rfl (qa_cons (qe_lc (own := [("one", 6)]) rfl sc.nd (qi_seq (qv 3)) (blkOk_by (by kernel_rfl)) (by decide) (fun _ _ _ _ _ => (qg_name sc.nd rfl loc_of)) (fun _ _ _ _ _ => qts_nil) (fun _ _ _ _ _ => (qe_call ((ok__law_breaks h).mono (by decide)) hr rfl h.G30 h.F30.kp (b__law_breaks h) LamX.takes0 (qa_cons (qv 6) (qa_cons (qv 5) qa_nil))))) qa_nil)) (qe_callB (cr_any rfl) p_any rfl h.B_any rfl (qa_cons (qe_lc (own := [("one", 6)]) rfl sc.nd (qi_seq (qv 4)) (blkOk_by (by kernel_rfl)) (by decide) (fun _ _ _ _ _ => (qg_name sc.nd rfl loc_of)) (fun _ _ _ _ _ => qts_nil) (fun _ _ _ _ _ => (qe_call ((ok__law_breaks h).mono (by decide)) hr rfl h.G30 h.F30.kp (b__law_breaks h) LamX.takes0 (qa_cons (qv 6) (qa_cons (qv 5) qa_nil))))) qa_nil)) (nomark _)) (qss_one (qs_ret qe_bl)) qss_nil)))
    (qss_one (qs_if (qt_w (qw_or (qt_not (qt_tru (qe_call ((ok__law_is_lot_right h).mono (by decide)) hr rfl h.G36 h.F36.kp (b__law_is_lot_right h) tk (qa_cons (qv 1) (qa_cons (qv 3) (qa_cons (qe_call ((ok__law_clause h).mono (by decide)) hr rfl h.G25 h.F25.kp (b__law_clause h) tk (qa_cons (qv 1) (qa_cons qe_int (qa_cons qe_int qa_nil)))) qa_nil)))))) (qw_or1 (qt_not (qt_tru (qe_call ((ok__law_is_turned_right h).mono (by decide)) hr rfl h.G37 h.F37.kp (b__law_is_turned_right h) tk (qa_cons (qv 1) (qa_cons (qv 3) qa_nil)))))))) (qss_one (qs_ret qe_bl)) qss_nil)))))))
    (qss_one (qs_ret qe_bl)))))
end
end Wk
set_option maxHeartbeats 2000000
namespace Vx
open PySem PySem.Spec L2
section
variable (ρ : Ev)
@[simp] theorem ev_C (d : D) : mC d ρ = .ok (.val d) ρ := rfl
@[simp] theorem ev_V (i : Nat) : mV i ρ = opt ρ (slV i ρ[i]?) := rfl
@[simp] theorem ev_1 (f : D → Option Op) (a : M Op) : m1 f a ρ = (a ρ).bind fun x ρ1 => opt ρ1 ((rd ρ1 x).bind f) := rfl
@[simp] theorem ev_2 (f : D → D → Option Op) (a b : M Op) : m2 f a b ρ = (a ρ).bind fun x ρ1 => (b ρ1).bind fun y ρ2 => opt ρ2 ((rd ρ2 x).bind fun a => (rd ρ2 y).bind fun b => f a b) := rfl
@[simp] theorem ev_B (f : List D → Option Op) (as : M (List Op)) : mB f as ρ = (as ρ).bind fun xs ρ1 => opt ρ1 ((rds ρ1 xs).bind f) := rfl
@[simp] theorem ev_aNil : aNil ρ = .ok [] ρ := rfl
@[simp] theorem ev_aCons (a : M Op) (as : M (List Op)) : aCons a as ρ = (a ρ).bind fun x ρ1 => (as ρ1).bind fun xs ρ2 => .ok (x :: xs) ρ2 := rfl
@[simp] theorem ev_K (a : M Op) : mK a ρ = (a ρ).bind fun x ρ1 => optE (kp ρ1 x) := rfl
@[simp] theorem ev_kNil : kNil ρ = .ok [] ρ := rfl
@[simp] theorem ev_kCons (a : M Op) (as : M (List D)) : kCons a as ρ = (mK a ρ).bind fun x ρ1 => (as ρ1).bind fun xs ρ2 => .ok (x :: xs) ρ2 := rfl
@[simp] theorem ev_Tup (as : M (List D)) : mTup as ρ = (as ρ).bind fun xs ρ1 => if xs.length ≤ sizeLine then .ok (.val (.tuple xs)) ρ1 else .no := rfl
@[simp] theorem ev_Lst (as : M (List D)) : mLst as ρ = (as ρ).bind fun xs ρ1 => if xs.length ≤ sizeLine then .ok (.fr (.list xs)) ρ1 else .no := rfl
@[simp] theorem ev_T (a : M Op) : mT a ρ = (a ρ).bind fun x ρ1 => opt ρ1 ((rd ρ1 x).bind isB) := rfl
@[simp] theorem ev_Tr (a : M Op) : mTr a ρ = (a ρ).bind fun x ρ1 => opt ρ1 ((rd ρ1 x).bind truD) := rfl
@[simp] theorem ev_Not (t : M Bool) : mNot t ρ = (t ρ).bind fun b ρ1 => .ok (!b) ρ1 := rfl
@[simp] theorem ev_And (t u : M Bool) : mAnd t u ρ = (t ρ).bind fun b ρ1 => if b = true then u ρ1 else .ok false ρ1 := rfl
@[simp] theorem ev_Or (t u : M Bool) : mOr t u ρ = (t ρ).bind fun b ρ1 => if b = true then .ok true ρ1 else u ρ1 := rfl
@[simp] theorem ev_If {α : Type} (c : M Bool) (a b : M α) : mIf c a b ρ = (c ρ).bind fun k ρ1 => if k = true then a ρ1 else b ρ1 := rfl
@[simp] theorem ev_NotV (t : M Bool) : mNotV t ρ = (t ρ).bind fun b ρ1 => .ok (.val (.bool (!b))) ρ1 := rfl
@[simp] theorem ev_AndV (t : M Bool) (u : M Op) : mAndV t u ρ = (t ρ).bind fun b ρ1 => if b = true then u ρ1 else .ok (.val (.bool false)) ρ1 := rfl
@[simp] theorem ev_OrV (t : M Bool) (u : M Op) : mOrV t u ρ = (t ρ).bind fun b ρ1 => if b = true then .ok (.val (.bool true)) ρ1 else u ρ1 := rfl
@[simp] theorem ev_sNx : sNx ρ = .ok .nx ρ := rfl
@[simp] theorem ev_sSeq (a b : M Fl) : sSeq a b ρ = (a ρ).bind fun f ρ1 => match f with
  | .nx => b ρ1
  | .bk => .ok .bk ρ1
  | .ct => .ok .ct ρ1
  | .rt x => .ok (.rt x) ρ1 := rfl
@[simp] theorem ev_sIf (c : M Bool) (a b : M Fl) : sIf c a b ρ = (c ρ).bind fun k ρ1 => if k = true then a ρ1 else b ρ1 := rfl
@[simp] theorem ev_sRet (a : M Op) : sRet a ρ = (a ρ).bind fun x ρ1 => .ok (.rt x) ρ1 := rfl
@[simp] theorem ev_sDrop (a : M Op) : sDrop a ρ = (a ρ).bind fun _ ρ1 => .ok .nx ρ1 := rfl
@[simp] theorem ev_sSet (i : Nat) (a : M Op) : sSet i a ρ = (a ρ).bind fun x ρ1 => oNx (stO i ρ1 x) := rfl
@[simp] theorem ev_sTg (t : Tg) (a : M Op) : sTg t a ρ = (mK a ρ).bind fun d ρ1 => oNx (t d ρ1) := rfl
@[simp] theorem ev_tName (i : Nat) (d : D) : tName i d ρ = if free ρ[i]? then some (ρ.set i (.cl d)) else none := rfl
@[simp] theorem ev_tsNil : tsNil [] ρ = some ρ := rfl
@[simp] theorem ev_tsCons (t : Tg) (u : Tgs) (d : D) (r : List D) : tsCons t u (d :: r) ρ = (t d ρ).bind (u r) := rfl
@[simp] theorem ev_tTup (u : Tgs) (ds : List D) : tTup u (.tuple ds) ρ = u ds ρ := rfl
@[simp] theorem ev_stV (i : Nat) (d : D) : stO i ρ (.val d) = if free ρ[i]? then some (ρ.set i (.cl d)) else none := rfl
@[simp] theorem ev_stF (i : Nat) (d : D) : stO i ρ (.fr d) = if free ρ[i]? then some (ρ.set i (.ow d)) else none := rfl
@[simp] theorem ev_stS (i j : Nat) : stO i ρ (.sl j) = if free ρ[i]? then (keepS j ρ ρ[j]?).bind fun p => some (p.2.set i (.cl p.1)) else none := rfl
@[simp] theorem ev_sFor (it : M (List D)) (t : Tg) (b : M Fl) : sFor it t b ρ = (it ρ).bind fun ds ρ1 => forI t b ds ρ1 := rfl
@[simp] theorem ev_sWhile (n : Nat) (c : M Bool) (b : M Fl) : sWhile n c b ρ = whI c b n ρ := rfl
@[simp] theorem ev_sPar (i j : Nat) (a b : M Op) : sPar i j a b ρ = (a ρ).bind fun x ρ1 => (b ρ1).bind fun y ρ2 => if (noSl x && noSl y) = true then oNx ((stO i ρ2 x).bind fun ρ3 => stO j ρ3 y) else .no := rfl
@[simp] theorem ev_Call (g : List D → FR) (md : List Md) (as : M (List Op)) : mCall g md as ρ = (as ρ).bind fun xs ρ1 => if noFr md xs = true then (match prep md xs ρ1 with
  | none => .no
  | some (ds, is, ρ2) => if apart md xs is = true then (match g ds with
    | .ok b d outs => (match putA is outs ρ2 with
      | some ρ3 => .ok (if b = true then .fr d else .val d) ρ3
      | none => .no)
    | .er x outs => (match putA is outs ρ2 with
      | some ρ3 => .er x ρ3
      | none => .no)
    | .no => .no) else .no) else .no := rfl
@[simp] theorem ev_Chain (f g : D → D → Option Op) (a b c : M Op) : mChain f g a b c ρ = (a ρ).bind fun x ρ1 => (b ρ1).bind fun y ρ2 => (opt ρ2 ((rd ρ2 x).bind fun a => (rd ρ2 y).bind fun b => (f a b).bind fun r => (rd ρ2 r).bind isB)).bind fun k ρ2 =>
  if k = true then (c ρ2).bind fun z ρ3 => opt ρ3 ((rd ρ3 y).bind fun b => (rd ρ3 z).bind fun c => g b c) else .ok (.val (.bool false)) ρ2 := rfl
@[simp] theorem ty_int (i : Int) : tyD (.int i) = "int" := rfl
@[simp] theorem ty_bool (i : Bool) : tyD (.bool i) = "bool" := rfl
@[simp] theorem ty_none : tyD .none = "NoneType" := rfl
@[simp] theorem ty_str (i : Str) : tyD (.str i) = "str" := rfl
@[simp] theorem ty_list (i : List D) : tyD (.list i) = "list" := rfl
@[simp] theorem ty_tup (i : List D) : tyD (.tuple i) = "tuple" := rfl
@[simp] theorem ty_dict (i : List (D × D)) : tyD (.dict i) = "dict" := rfl
@[simp] theorem fIsi_eq (ts : List String) (d : D) : fIsi ts d = some (.val (.bool (ts.contains (tyD d)))) := rfl
@[simp] theorem ev_noSlV (d : D) : noSl (.val d) = true := rfl
@[simp] theorem ev_noSlF (d : D) : noSl (.fr d) = true := rfl
@[simp] theorem ev_noSlS (i : Nat) : noSl (.sl i) = false := rfl
@[simp] theorem free_un : free (some .un) = true := rfl
@[simp] theorem free_cl (d : D) : free (some (.cl d)) = true := rfl
@[simp] theorem free_bo (d : D) : free (some (.bo d)) = true := rfl
@[simp] theorem free_ow (d : D) : free (some (.ow d)) = true := rfl
@[simp] theorem free_leF (d : D) : free (some (.le d)) = false := rfl
@[simp] theorem putS_ow (d e : D) : putS d (some (.ow e)) = some (.ow d) := rfl
@[simp] theorem putS_le (d e : D) : putS d (some (.le e)) = some (.le d) := rfl
@[simp] theorem putA_nil : putA [] [] ρ = some ρ := rfl
@[simp] theorem putA_cons (i : Nat) (is : List Nat) (d : D) (ds : List D) : putA (i :: is) (d :: ds) ρ = (putS d ρ[i]?).bind fun s => putA is ds (ρ.set i s) := rfl
@[simp] theorem prep_nil : prep [] [] ρ = some ([], [], ρ) := rfl
@[simp] theorem prep_pl (ms : List Md) (x : Op) (xs : List Op) : prep (.pl :: ms) (x :: xs) ρ = (rd ρ x).bind fun d => (prep ms xs ρ).bind fun r => some (d :: r.1, r.2.1, r.2.2) := rfl
@[simp] theorem prep_mu (ms : List Md) (i : Nat) (xs : List Op) : prep (.mu :: ms) (.sl i :: xs) ρ = (match ρ[i]? with
    | some (.ow d) => (prep ms xs ρ).bind fun r => if i ∈ r.2.1 then none else some (d :: r.1, i :: r.2.1, r.2.2)
    | some (.le d) => (prep ms xs ρ).bind fun r => if i ∈ r.2.1 then none else some (d :: r.1, i :: r.2.1, r.2.2)
    | _ => none) := rfl
end
@[simp] theorem noFr_nil (xs : List Op) : noFr [] xs = true := rfl
@[simp] theorem noFr_pl (ms : List Md) (x : Op) (xs : List Op) : noFr (.pl :: ms) (x :: xs) = noFr ms xs := by cases x <;> rfl
@[simp] theorem noFr_mu (ms : List Md) (x : Op) (xs : List Op) : noFr (.mu :: ms) (x :: xs) = noFr ms xs := by cases x <;> rfl
@[simp] theorem apart_nil (xs : List Op) (is : List Nat) : apart [] xs is = true := rfl
@[simp] theorem apart_plV (ms : List Md) (d : D) (xs : List Op) (is : List Nat) : apart (.pl :: ms) (.val d :: xs) is = apart ms xs is := rfl
@[simp] theorem apart_plF (ms : List Md) (d : D) (xs : List Op) (is : List Nat) : apart (.pl :: ms) (.fr d :: xs) is = apart ms xs is := rfl
@[simp] theorem apart_plS (ms : List Md) (i : Nat) (xs : List Op) (is : List Nat) : apart (.pl :: ms) (.sl i :: xs) is = (!decide (i ∈ is) && apart ms xs is) := rfl
@[simp] theorem apart_mu (ms : List Md) (x : Op) (xs : List Op) (is : List Nat) : apart (.mu :: ms) (x :: xs) is = apart ms xs is := by cases x <;> rfl
@[simp] theorem entS_mu (d : D) : entS .mu d = .le d := rfl
@[simp] theorem entS_kp (d : D) : entS .kp d = .cl d := rfl
@[simp] theorem entS_plL (ds : List D) : entS .pl (.list ds) = .bo (.list ds) := rfl
@[simp] theorem entS_plD (ds : List (D × D)) : entS .pl (.dict ds) = .bo (.dict ds) := rfl
@[simp] theorem entS_plT (ds : List D) : entS .pl (.tuple ds) = .cl (.tuple ds) := rfl
@[simp] theorem entS_plI (i : Int) : entS .pl (.int i) = .cl (.int i) := rfl
@[simp] theorem entS_plB (i : Bool) : entS .pl (.bool i) = .cl (.bool i) := rfl
@[simp] theorem entS_plN : entS .pl .none = .cl .none := rfl
@[simp] theorem entS_plS (i : Str) : entS .pl (.str i) = .cl (.str i) := rfl
@[simp] theorem entA_nil : entA [] [] = [] := rfl
@[simp] theorem entA_cons (m : Md) (ms : List Md) (d : D) (ds : List D) : entA (m :: ms) (d :: ds) = entS m d :: entA ms ds := rfl
@[simp] theorem leS_le (d : D) : leS (some (.le d)) = some d := rfl
@[simp] theorem outsA_nil (ρ : Ev) (i : Nat) : outsA ρ [] i = some [] := rfl
@[simp] theorem outsA_mu (ρ : Ev) (ms : List Md) (i : Nat) : outsA ρ (.mu :: ms) i = (leS ρ[i]?).bind fun d => (outsA ρ ms (i + 1)).bind fun r => some (d :: r) := rfl
@[simp] theorem outsA_pl (ρ : Ev) (ms : List Md) (i : Nat) : outsA ρ (.pl :: ms) i = outsA ρ ms (i + 1) := rfl
@[simp] theorem outsA_kp (ρ : Ev) (ms : List Md) (i : Nat) : outsA ρ (.kp :: ms) i = outsA ρ ms (i + 1) := rfl
@[simp] theorem resO_val (ρ : Ev) (d : D) : resO ρ (.val d) = some (false, d) := rfl
@[simp] theorem resO_fr (ρ : Ev) (d : D) : resO ρ (.fr d) = some (true, d) := rfl
@[simp] theorem resO_sl (ρ : Ev) (i : Nat) : resO ρ (.sl i) = (match ρ[i]? with
    | some (.ow d) => some (true, d)
    | some (.cl d) => some (false, d)
    | _ => none) := rfl
@[simp] theorem finR_rt (md : List Md) (x : Op) (ρ : Ev) : finR md (.ok (.rt x) ρ) = (match resO ρ x, outsA ρ md 0 with
    | some (b, d), some outs => .ok b d outs
    | _, _ => .no) := rfl
@[simp] theorem finR_nx (md : List Md) (ρ : Ev) : finR md (.ok .nx ρ) = (match outsA ρ md 0 with
    | some outs => .ok false .none outs
    | none => .no) := rfl
@[simp] theorem fSub_int (i j : Int) : fSub (.int i) (.int j) = some (.val (.int (i - j))) := rfl
@[simp] theorem fLt_int (i j : Int) : fLt (.int i) (.int j) = some (.val (.bool (decide (i < j)))) := rfl
@[simp] theorem fLe_int (i j : Int) : fLe (.int i) (.int j) = some (.val (.bool (decide (i ≤ j)))) := rfl
@[simp] theorem fGt_int (i j : Int) : fGt (.int i) (.int j) = some (.val (.bool (decide (j < i)))) := rfl
@[simp] theorem fGe_int (i j : Int) : fGe (.int i) (.int j) = some (.val (.bool (decide (j ≤ i)))) := rfl
theorem fDiv_int {i j : Int} (h : okDivW j = true) : fDiv (.int i) (.int j) = some (.val (.int (i / j))) := by
  show (if okDivW j = true then some (PyData.int (i / j)) else none).map Op.val = _
  rw [if_pos h]; rfl
theorem fMod_int {i j : Int} (h : 0 < j) : fMod (.int i) (.int j) = some (.val (.int (i % j))) := by
  show (if decide (0 < j) = true then some (PyData.int (i % j)) else none).map Op.val = _
  rw [if_pos (decide_eq_true h)]; rfl
theorem fMul_int {i j : Int} (h : okMul i j = true) : fMul (.int i) (.int j) = some (.val (.int (i * j))) := by
  show (if okMul i j = true then some (PyData.int (i * j)) else none).map Op.val = _
  rw [if_pos h]; rfl
theorem fPow_int {i j : Int} (h : okPow i j = true) : fPow (.int i) (.int j) = some (.val (.int (i ^ j.toNat))) := by
  show (if okPow i j = true then some (PyData.int (i ^ j.toNat)) else none).map Op.val = _
  rw [if_pos h]; rfl
theorem fShl_int {i j : Int} (h : okPow i j = true) : fShl (.int i) (.int j) = some (.val (.int (i * 2 ^ j.toNat))) := by
  show (if okPow i j = true then some (PyData.int (i * 2 ^ j.toNat)) else none).map Op.val = _
  rw [if_pos h]; rfl
/-- data of depth n at most, without dicts, with plain texts alone -/
def Shp (n : Nat) (d : D) : Prop := d.canLay0 = true ∧ d.depth ≤ n
theorem Shp.int (n : Nat) (i : Int) : Shp n (.int i) := ⟨by simp [PyData.canLay0], by simp [PyData.depth]⟩
theorem Shp.bool (n : Nat) (i : Bool) : Shp n (.bool i) := ⟨by simp [PyData.canLay0], by simp [PyData.depth]⟩
theorem Shp.none (n : Nat) : Shp n .none := ⟨by simp [PyData.canLay0], by simp [PyData.depth]⟩
theorem canLayAll_of : ∀ {ds : List D}, (∀ d ∈ ds, d.canLay0 = true) → PyData.canLayAll0 ds = true
  | [], _ => by simp [PyData.canLayAll0]
  | d :: ds, h => by
    have h1 := h d List.mem_cons_self
    have h2 := canLayAll_of fun x hx => h x (List.mem_cons_of_mem _ hx)
    simp [PyData.canLayAll0, h1, h2]
theorem depthAll_of {n : Nat} : ∀ {ds : List D}, (∀ d ∈ ds, d.depth ≤ n) → PyData.depthAll ds ≤ n
  | [], _ => by simp [PyData.depthAll]
  | d :: ds, h => by
    have h1 := h d List.mem_cons_self
    have h2 := depthAll_of fun x hx => h x (List.mem_cons_of_mem _ hx)
    simp only [PyData.depthAll]
    omega
theorem Shp.tup {n : Nat} {ds : List D} (h : ∀ d ∈ ds, Shp n d) : Shp (n + 1) (.tuple ds) :=
  ⟨by simp only [PyData.canLay0]; exact canLayAll_of fun d hd => (h d hd).1, by simp only [PyData.depth]; have := depthAll_of fun d hd => (h d hd).2; omega⟩
theorem Shp.lst {n : Nat} {ds : List D} (h : ∀ d ∈ ds, Shp n d) : Shp (n + 1) (.list ds) :=
  ⟨by simp only [PyData.canLay0]; exact canLayAll_of fun d hd => (h d hd).1, by simp only [PyData.depth]; have := depthAll_of fun d hd => (h d hd).2; omega⟩
theorem Shp.mono {n m : Nat} {d : D} (h : Shp n d) (l : n ≤ m) : Shp m d := ⟨h.1, Nat.le_trans h.2 l⟩
theorem Shp.ok {n : Nat} {d : D} (h : Shp n d) (l : n ≤ 64) : okS d = true := Bool.and_eq_true_iff.mpr ⟨h.1, decide_eq_true (Nat.le_trans h.2 l)⟩
@[simp] theorem okS_int (i : Int) : okS (.int i) = true := (Shp.int 0 i).ok (by decide)
@[simp] theorem okS_bool (i : Bool) : okS (.bool i) = true := (Shp.bool 0 i).ok (by decide)
@[simp] theorem okS_none : okS .none = true := (Shp.none 0).ok (by decide)
theorem fEq_of {a b : D} (ha : okS a = true) (hb : okS b = true) : fEq a b = some (.val (.bool (PyData.eqv a b))) := by
  unfold fEq; rw [ha, hb]; rfl
theorem fNe_of {a b : D} (ha : okS a = true) (hb : okS b = true) : fNe a b = some (.val (.bool (!PyData.eqv a b))) := by
  unfold fNe; rw [ha, hb]; rfl
@[simp] theorem eqv_int (i j : Int) : PyData.eqv (.int i) (.int j) = decide (i = j) := by
  simp only [PyData.eqv]
  by_cases h : i = j <;> simp [h]
@[simp] theorem fEq_int (i j : Int) : fEq (.int i) (.int j) = some (.val (.bool (decide (i = j)))) := by
  rw [fEq_of (okS_int i) (okS_int j), eqv_int]
@[simp] theorem fNe_int (i j : Int) : fNe (.int i) (.int j) = some (.val (.bool (!decide (i = j)))) := by
  rw [fNe_of (okS_int i) (okS_int j), eqv_int]
mutual
theorem eqv_refl : ∀ d : D, d.canLay0 = true → PyData.eqv d d = true
  | .none, _ => by simp [PyData.eqv]
  | .bool b, _ => by simp [PyData.eqv]
  | .int i, _ => by simp [PyData.eqv]
  | .str x, _ => by simp [PyData.eqv]
  | .list ds, h => by simp only [PyData.eqv]; exact eqvAll_refl ds (by simpa [PyData.canLay0] using h)
  | .tuple ds, h => by simp only [PyData.eqv]; exact eqvAll_refl ds (by simpa [PyData.canLay0] using h)
  | .dict _, h => by simp [PyData.canLay0] at h
theorem eqvAll_refl : ∀ ds : List D, PyData.canLayAll0 ds = true → PyData.eqvAll ds ds = true
  | [], _ => by simp [PyData.eqvAll]
  | d :: ds, h => by
    have h : (d.canLay0 && PyData.canLayAll0 ds) = true := by simpa [PyData.canLayAll0] using h
    obtain ⟨h1, h2⟩ := Bool.and_eq_true_iff.mp h
    simp only [PyData.eqvAll, eqv_refl d h1, eqvAll_refl ds h2, Bool.and_self]
end
theorem eqvAll_ints : ∀ (a b : List Int), PyData.eqvAll (a.map .int) (b.map .int) = decide (a = b)
  | [], [] => by simp [PyData.eqvAll]
  | [], _ :: _ => by simp [PyData.eqvAll]
  | _ :: _, [] => by simp [PyData.eqvAll]
  | x :: a, y :: b => by
    simp only [List.map_cons, PyData.eqvAll, eqvAll_ints a b, eqv_int]
    by_cases h1 : x = y <;> by_cases h2 : a = b <;> simp [h1, h2]
/-- a tuple of ints -/
abbrev encI (c : List Int) : D := .tuple (c.map .int)
theorem shp_I (c : List Int) : Shp 1 (encI c) := Shp.tup fun d hd => by
  obtain ⟨i, _, e⟩ := List.mem_map.mp hd
  subst e; exact Shp.int 0 i
theorem eqv_I (a b : List Int) : PyData.eqv (encI a) (encI b) = decide (a = b) := by
  simp only [PyData.eqv]; exact eqvAll_ints a b
theorem fEq_I (a b : List Int) : fEq (encI a) (encI b) = some (.val (.bool (decide (a = b)))) := by
  rw [fEq_of ((shp_I a).ok (by decide)) ((shp_I b).ok (by decide)), eqv_I]
theorem fNe_I (a b : List Int) : fNe (encI a) (encI b) = some (.val (.bool (!decide (a = b)))) := by
  rw [fNe_of ((shp_I a).ok (by decide)) ((shp_I b).ok (by decide)), eqv_I]
theorem fEq_refl {n : Nat} {d : D} (h : Shp n d) (l : n ≤ 64) : fEq d d = some (.val (.bool true)) := by
  rw [fEq_of (h.ok l) (h.ok l), eqv_refl d h.1]
theorem fNe_refl {n : Nat} {d : D} (h : Shp n d) (l : n ≤ 64) : fNe d d = some (.val (.bool false)) := by
  rw [fNe_of (h.ok l) (h.ok l), eqv_refl d h.1]; rfl
@[simp] theorem fLen_list (ds : List D) : fLen (.list ds) = some (.val (.int ds.length)) := rfl
@[simp] theorem fLen_tup (ds : List D) : fLen (.tuple ds) = some (.val (.int ds.length)) := rfl
/-- a loop that runs through -/
theorem forI_inv {t : Tg} {b : M Fl} {P : Nat → Ev → Prop} : ∀ (ds : List D) (k : Nat) (ρ : Ev), P k ρ → (∀ i d ρ, ds[i]? = some d → P (k + i) ρ → ∃ ρ1 ρ2, t d ρ = some ρ1 ∧ (b ρ1 = .ok .nx ρ2 ∨ b ρ1 = .ok .ct ρ2) ∧ P (k + i + 1) ρ2) → ∃ ρ', forI t b ds ρ = .ok .nx ρ' ∧ P (k + ds.length) ρ'
  | [], k, ρ, h0, _ => ⟨ρ, rfl, h0⟩
  | d :: ds, k, ρ, h0, h => by
    obtain ⟨ρ1, ρ2, e1, e2, p⟩ := h 0 d ρ rfl h0
    obtain ⟨ρ', q1, q2⟩ := forI_inv ds (k + 1) ρ2 p fun i d' ρ hd hp => by
      have := h (i + 1) d' ρ hd (by rw [show k + (i + 1) = k + 1 + i by omega]; exact hp)
      rwa [show k + (i + 1) + 1 = k + 1 + i + 1 by omega] at this
    refine ⟨ρ', ?_, by rw [List.length_cons, show k + (ds.length + 1) = k + 1 + ds.length by omega]; exact q2⟩
    unfold forI
    rw [e1]
    rcases e2 with e2 | e2 <;> (dsimp only; rw [e2]; exact q1)
/-- a while that runs through: P holds at each turn's beginning, the measure falls -/
theorem whI_inv {c : M Bool} {b : M Fl} {P : Nat → Ev → Prop} {Q : Ev → Prop} (h : ∀ m ρ, P m ρ → (∃ ρ1, c ρ = .ok false ρ1 ∧ Q ρ1) ∨ ∃ m', m = m' + 1 ∧ ∃ ρ1 ρ2, c ρ = .ok true ρ1 ∧ (b ρ1 = .ok .nx ρ2 ∨ b ρ1 = .ok .ct ρ2) ∧ P m' ρ2) :
    ∀ (m n : Nat) (ρ : Ev), m < n → P m ρ → ∃ ρ', whI c b n ρ = .ok .nx ρ' ∧ Q ρ'
  | m, 0, ρ, hn, _ => absurd hn (Nat.not_lt_zero _)
  | m, n + 1, ρ, hn, p => by
    rcases h m ρ p with ⟨ρ1, e, q⟩ | ⟨m', em, ρ1, ρ2, e, e2, p2⟩
    · refine ⟨ρ1, ?_, q⟩
      unfold whI
      rw [e]; rfl
    · obtain ⟨ρ', q1, q2⟩ := whI_inv h m' n ρ2 (by omega) p2
      refine ⟨ρ', ?_, q2⟩
      unfold whI
      rw [e, Rs.bind_ok, if_pos rfl]
      rcases e2 with e2 | e2 <;> (rw [e2]; exact q1)
end Vx
set_option maxHeartbeats 2000000
namespace Vx
open PySem PySem.Spec L2
theorem bkS_same {ρ ρ' : Ev} {vs : List Nat} (h : unS ρ' vs = unS ρ vs) : bkS ρ ρ' vs = ρ := by
  have hl : ρ'.length = ρ.length := by
    have := congrArg List.length h
    rwa [unS_len, unS_len] at this
  refine List.ext_getElem? fun i => ?_
  by_cases hv : i ∈ vs
  · by_cases hi : i < ρ.length
    · rw [bkS_in ρ ρ' (by rw [hl]; exact hi) hv, List.getElem?_eq_getElem hi]; rfl
    · rw [List.getElem?_eq_none (by rw [bkS_len, hl]; omega), List.getElem?_eq_none (by omega)]
  · rw [bkS_out ρ ρ' hv, ← unS_out ρ' hv, h, unS_out ρ hv]
section
variable {t : Tg} {tt : M Bool} {e : M Op} {vs : List Nat} {it : M (List D)}
/-- a comprehension whose parts leave the environment as it is -/
theorem lcI_pure {ρ1 : Ev} {p : D → Bool} {f : D → D} : ∀ (ds acc : List D) (ρ : Ev), unS ρ vs = unS ρ1 vs → acc.length + ds.length ≤ sizeLine →
    (∀ d ∈ ds, ∃ ρd, t d (unS ρ1 vs) = some ρd ∧ unS ρd vs = unS ρ1 vs ∧ tt ρd = .ok (p d) ρd ∧ (p d = true → mK e ρd = .ok (f d) ρd)) → ∃ ρ', lcI t tt e vs ds acc ρ = .ok (acc ++ (ds.filter p).map f) ρ' ∧ unS ρ' vs = unS ρ1 vs
  | [], acc, ρ, hu, _, _ => ⟨ρ, by unfold lcI; simp, hu⟩
  | d :: ds, acc, ρ, hu, hz, h => by
    obtain ⟨ρd, e1, e2, e3, e4⟩ := h d List.mem_cons_self
    have hr := fun x hx => h x (List.mem_cons_of_mem _ hx)
    unfold lcI
    rw [hu, e1]
    dsimp only
    rw [e3]
    cases hp : p d with
    | false =>
      dsimp only
      obtain ⟨ρ', q1, q2⟩ := lcI_pure ds acc ρd e2 (by simp at hz; omega) hr
      exact ⟨ρ', by rw [q1, List.filter_cons_of_neg (by rw [hp]; exact Bool.false_ne_true)], q2⟩
    | true =>
      dsimp only
      rw [e4 hp]
      dsimp only
      rw [if_pos (by simp at hz; omega)]
      obtain ⟨ρ', q1, q2⟩ := lcI_pure ds (acc ++ [f d]) ρd e2 (by simp at hz ⊢; omega) hr
      exact ⟨ρ', by rw [q1, List.filter_cons_of_pos hp, List.map_cons, List.append_assoc]; rfl, q2⟩
theorem mLc_pure {ρ ρ1 : Ev} {ds : List D} (p : D → Bool) (f : D → D) (hi : it ρ = .ok ds ρ1) (hw : (vs.all fun v => wipable ρ1[v]?) = true) (hz : ds.length ≤ sizeLine)
    (h : ∀ d ∈ ds, ∃ ρd, t d (unS ρ1 vs) = some ρd ∧ unS ρd vs = unS ρ1 vs ∧ tt ρd = .ok (p d) ρd ∧ (p d = true → mK e ρd = .ok (f d) ρd)) : mLc it t tt e vs ρ = .ok (.fr (.list ((ds.filter p).map f))) ρ1 := by
  obtain ⟨ρ', q1, q2⟩ := lcI_pure ds [] ρ1 rfl (by simpa using hz) h
  unfold mLc
  rw [hi, Rs.bind_ok, if_pos hw, q1]
  dsimp only
  rw [bkS_same q2, List.nil_append]
/-- one name, no test -/
theorem mLc_map {v : Nat} {ρ ρ1 : Ev} {ds : List D} (f : D → D) (hi : it ρ = .ok ds ρ1) (hw : wipable ρ1[v]? = true) (hz : ds.length ≤ sizeLine) (h : ∀ d ∈ ds, mK e (ρ1.set v (.cl d)) = .ok (f d) (ρ1.set v (.cl d))) :
    mLc it (tName v) tYesM e [v] ρ = .ok (.fr (.list (ds.map f))) ρ1 := by
  have hv : v < ρ1.length := by
    obtain ⟨_, x, e⟩ := wip_own hw
    exact (List.getElem?_eq_some_iff.mp e).1
  have := mLc_pure (it := it) (t := tName v) (tt := tYesM) (e := e) (vs := [v]) (ρ := ρ) (fun _ => true) f hi (by simp [hw]) hz fun d hd => ⟨ρ1.set v (.cl d), ?_, ?_, rfl, fun _ => h d hd⟩
  · rw [this, List.filter_eq_self.mpr fun _ _ => rfl]
  · show (if free (ρ1.set v .un)[v]? = true then some ((ρ1.set v .un).set v (.cl d)) else none) = _
    rw [List.getElem?_set_self hv, free_un, if_pos rfl, List.set_set]
  · show (ρ1.set v (.cl d)).set v .un = ρ1.set v .un
    rw [List.set_set]
/-- one name, a test -/
theorem mLc_filter {v : Nat} {ρ ρ1 : Ev} {ds : List D} (p : D → Bool) (f : D → D) (hi : it ρ = .ok ds ρ1) (hw : wipable ρ1[v]? = true) (hz : ds.length ≤ sizeLine)
    (ht : ∀ d ∈ ds, tt (ρ1.set v (.cl d)) = .ok (p d) (ρ1.set v (.cl d))) (h : ∀ d ∈ ds, p d = true → mK e (ρ1.set v (.cl d)) = .ok (f d) (ρ1.set v (.cl d))) :
    mLc it (tName v) tt e [v] ρ = .ok (.fr (.list ((ds.filter p).map f))) ρ1 := by
  have hv : v < ρ1.length := by
    obtain ⟨_, x, e⟩ := wip_own hw
    exact (List.getElem?_eq_some_iff.mp e).1
  refine mLc_pure (vs := [v]) p f hi (by simp [hw]) hz fun d hd => ⟨ρ1.set v (.cl d), ?_, ?_, ht d hd, h d hd⟩
  · show (if free (ρ1.set v .un)[v]? = true then some ((ρ1.set v .un).set v (.cl d)) else none) = _
    rw [List.getElem?_set_self hv, free_un, if_pos rfl, List.set_set]
  · show (ρ1.set v (.cl d)).set v .un = ρ1.set v .un
    rw [List.set_set]
/-- two names of a pair -/
theorem mLc_pair {v u : Nat} {ρ ρ1 : Ev} {ds : List D} (p : D → Bool) (f : D → D) (hi : it ρ = .ok ds ρ1) (hvu : v ≠ u) (hw : wipable ρ1[v]? = true) (hw2 : wipable ρ1[u]? = true) (hz : ds.length ≤ sizeLine)
    (h : ∀ d ∈ ds, ∃ a b, d = .tuple [a, b] ∧ tt ((ρ1.set v (.cl a)).set u (.cl b)) = .ok (p d) ((ρ1.set v (.cl a)).set u (.cl b)) ∧ (p d = true → mK e ((ρ1.set v (.cl a)).set u (.cl b)) = .ok (f d) ((ρ1.set v (.cl a)).set u (.cl b)))) :
    mLc it (tTup (tsCons (tName v) (tsCons (tName u) tsNil))) tt e [v, u] ρ = .ok (.fr (.list ((ds.filter p).map f))) ρ1 := by
  have hv : v < ρ1.length := by
    obtain ⟨_, x, e⟩ := wip_own hw
    exact (List.getElem?_eq_some_iff.mp e).1
  have hu : u < ρ1.length := by
    obtain ⟨_, x, e⟩ := wip_own hw2
    exact (List.getElem?_eq_some_iff.mp e).1
  refine mLc_pure (vs := [v, u]) p f hi (by simp [hw, hw2]) hz fun d hd => ?_
  obtain ⟨a, b, ed, h1, h2⟩ := h d hd
  subst ed
  refine ⟨(ρ1.set v (.cl a)).set u (.cl b), ?_, ?_, h1, h2⟩
  · have e1 : unS ρ1 [v, u] = (ρ1.set u .un).set v .un := rfl
    rw [e1, ev_tTup, ev_tsCons, ev_tName, List.getElem?_set_self (by simpa using hv), free_un, if_pos rfl]
    show ((tsCons (tName u) tsNil) [b] (((ρ1.set u .un).set v .un).set v (.cl a))) = _
    rw [ev_tsCons, ev_tName, List.getElem?_set_ne hvu, List.getElem?_set_ne hvu, List.getElem?_set_self hu, free_un, if_pos rfl]
    show some _ = _
    congr 1
    rw [List.set_set]
    rw [List.set_comm _ _ hvu.symm, List.set_set]
  · show (((ρ1.set v (.cl a)).set u (.cl b)).set u .un).set v .un = (ρ1.set u .un).set v .un
    rw [List.set_set, List.set_comm _ _ hvu.symm, List.set_set, List.set_comm _ _ hvu]
end
section
variable {α : Type} {t : Tg} {tt : M Bool} {e : M Op} {vs : List Nat} {it : M (List D)} (enc : α → D) (p : α → Bool) (f : α → D)
theorem lcI_enc {ρ1 : Ev} : ∀ (l : List α) (acc : List D) (ρ : Ev), unS ρ vs = unS ρ1 vs → acc.length + l.length ≤ sizeLine →
    (∀ a ∈ l, ∃ ρd, t (enc a) (unS ρ1 vs) = some ρd ∧ unS ρd vs = unS ρ1 vs ∧ tt ρd = .ok (p a) ρd ∧ (p a = true → mK e ρd = .ok (f a) ρd)) → ∃ ρ', lcI t tt e vs (l.map enc) acc ρ = .ok (acc ++ (l.filter p).map f) ρ' ∧ unS ρ' vs = unS ρ1 vs
  | [], acc, ρ, hu, _, _ => ⟨ρ, by rw [List.map_nil]; unfold lcI; simp, hu⟩
  | a :: l, acc, ρ, hu, hz, h => by
    obtain ⟨ρd, e1, e2, e3, e4⟩ := h a List.mem_cons_self
    have hr := fun x hx => h x (List.mem_cons_of_mem _ hx)
    rw [List.map_cons]
    unfold lcI
    rw [hu, e1]
    dsimp only
    rw [e3]
    cases hp : p a with
    | false =>
      dsimp only
      obtain ⟨ρ', q1, q2⟩ := lcI_enc l acc ρd e2 (by simp at hz; omega) hr
      exact ⟨ρ', by rw [q1, List.filter_cons_of_neg (by rw [hp]; exact Bool.false_ne_true)], q2⟩
    | true =>
      dsimp only
      rw [e4 hp]
      dsimp only
      rw [if_pos (by simp at hz; omega)]
      obtain ⟨ρ', q1, q2⟩ := lcI_enc l (acc ++ [f a]) ρd e2 (by simp at hz ⊢; omega) hr
      exact ⟨ρ', by rw [q1, List.filter_cons_of_pos hp, List.map_cons, List.append_assoc]; rfl, q2⟩
theorem mLc_enc {ρ ρ1 : Ev} {l : List α} (hi : it ρ = .ok (l.map enc) ρ1) (hw : (vs.all fun v => wipable ρ1[v]?) = true) (hz : l.length ≤ sizeLine)
    (h : ∀ a ∈ l, ∃ ρd, t (enc a) (unS ρ1 vs) = some ρd ∧ unS ρd vs = unS ρ1 vs ∧ tt ρd = .ok (p a) ρd ∧ (p a = true → mK e ρd = .ok (f a) ρd)) : mLc it t tt e vs ρ = .ok (.fr (.list ((l.filter p).map f))) ρ1 := by
  obtain ⟨ρ', q1, q2⟩ := lcI_enc enc p f l [] ρ1 rfl (by simpa using hz) h
  unfold mLc
  rw [hi, Rs.bind_ok, if_pos hw, q1]
  dsimp only
  rw [bkS_same q2, List.nil_append]
theorem set1 {v : Nat} {ρ1 : Ev} {d : D} (hw : wipable ρ1[v]? = true) : tName v d (unS ρ1 [v]) = some (ρ1.set v (.cl d)) ∧ unS (ρ1.set v (.cl d)) [v] = unS ρ1 [v] := by
  have hv : v < ρ1.length := by
    obtain ⟨_, x, e⟩ := wip_own hw
    exact (List.getElem?_eq_some_iff.mp e).1
  constructor
  · show (if free (ρ1.set v .un)[v]? = true then some ((ρ1.set v .un).set v (.cl d)) else none) = _
    rw [List.getElem?_set_self hv, free_un, if_pos rfl, List.set_set]
  · show (ρ1.set v (.cl d)).set v .un = ρ1.set v .un
    rw [List.set_set]
theorem mLc_encF {v : Nat} {ρ ρ1 : Ev} {l : List α} (hi : it ρ = .ok (l.map enc) ρ1) (hw : wipable ρ1[v]? = true) (hz : l.length ≤ sizeLine)
    (ht : ∀ a ∈ l, tt (ρ1.set v (.cl (enc a))) = .ok (p a) (ρ1.set v (.cl (enc a)))) (h : ∀ a ∈ l, p a = true → mK e (ρ1.set v (.cl (enc a))) = .ok (f a) (ρ1.set v (.cl (enc a)))) :
    mLc it (tName v) tt e [v] ρ = .ok (.fr (.list ((l.filter p).map f))) ρ1 :=
  mLc_enc (vs := [v]) enc p f hi (by simp [hw]) hz fun a ha => ⟨_, (set1 hw).1, (set1 hw).2, ht a ha, h a ha⟩
theorem mLc_encM {v : Nat} {ρ ρ1 : Ev} {l : List α} (hi : it ρ = .ok (l.map enc) ρ1) (hw : wipable ρ1[v]? = true) (hz : l.length ≤ sizeLine) (h : ∀ a ∈ l, mK e (ρ1.set v (.cl (enc a))) = .ok (f a) (ρ1.set v (.cl (enc a)))) :
    mLc it (tName v) tYesM e [v] ρ = .ok (.fr (.list (l.map f))) ρ1 := by
  rw [mLc_encF (tt := tYesM) enc (fun _ => true) f hi hw hz (fun _ _ => rfl) fun a ha _ => h a ha, List.filter_eq_self.mpr fun _ _ => rfl]
theorem set2 {v u : Nat} {ρ1 : Ev} {a b : D} (hvu : v ≠ u) (hw : wipable ρ1[v]? = true) (hw2 : wipable ρ1[u]? = true) :
    tTup (tsCons (tName v) (tsCons (tName u) tsNil)) (.tuple [a, b]) (unS ρ1 [v, u]) = some ((ρ1.set v (.cl a)).set u (.cl b)) ∧ unS ((ρ1.set v (.cl a)).set u (.cl b)) [v, u] = unS ρ1 [v, u] := by
  have hv : v < ρ1.length := by
    obtain ⟨_, x, e⟩ := wip_own hw
    exact (List.getElem?_eq_some_iff.mp e).1
  have hu : u < ρ1.length := by
    obtain ⟨_, x, e⟩ := wip_own hw2
    exact (List.getElem?_eq_some_iff.mp e).1
  constructor
  · have e1 : unS ρ1 [v, u] = (ρ1.set u .un).set v .un := rfl
    rw [e1, ev_tTup, ev_tsCons, ev_tName, List.getElem?_set_self (by simpa using hv), free_un, if_pos rfl]
    show ((tsCons (tName u) tsNil) [b] (((ρ1.set u .un).set v .un).set v (.cl a))) = _
    rw [ev_tsCons, ev_tName, List.getElem?_set_ne hvu, List.getElem?_set_ne hvu, List.getElem?_set_self hu, free_un, if_pos rfl]
    show some _ = _
    congr 1
    rw [List.set_set]
    rw [List.set_comm _ _ hvu.symm, List.set_set]
  · show (((ρ1.set v (.cl a)).set u (.cl b)).set u .un).set v .un = (ρ1.set u .un).set v .un
    rw [List.set_set, List.set_comm _ _ hvu.symm, List.set_set, List.set_comm _ _ hvu]
theorem mLc_enc2 {β γ : Type} {v u : Nat} {ρ ρ1 : Ev} {l : List (β × γ)} (eb : β → D) (ec : γ → D) (p : β × γ → Bool) (f : β × γ → D) (hi : it ρ = .ok (l.map fun q => .tuple [eb q.1, ec q.2]) ρ1) (hvu : v ≠ u) (hw : wipable ρ1[v]? = true) (hw2 : wipable ρ1[u]? = true) (hz : l.length ≤ sizeLine)
    (ht : ∀ q ∈ l, tt ((ρ1.set v (.cl (eb q.1))).set u (.cl (ec q.2))) = .ok (p q) ((ρ1.set v (.cl (eb q.1))).set u (.cl (ec q.2)))) (h : ∀ q ∈ l, p q = true → mK e ((ρ1.set v (.cl (eb q.1))).set u (.cl (ec q.2))) = .ok (f q) ((ρ1.set v (.cl (eb q.1))).set u (.cl (ec q.2)))) :
    mLc it (tTup (tsCons (tName v) (tsCons (tName u) tsNil))) tt e [v, u] ρ = .ok (.fr (.list ((l.filter p).map f))) ρ1 :=
  mLc_enc (vs := [v, u]) (fun q => .tuple [eb q.1, ec q.2]) p f hi (by simp [hw, hw2]) hz fun q hq => ⟨_, (set2 hvu hw hw2).1, (set2 hvu hw hw2).2, ht q hq, h q hq⟩
theorem mLc_enc2M {β γ : Type} {v u : Nat} {ρ ρ1 : Ev} {l : List (β × γ)} (eb : β → D) (ec : γ → D) (f : β × γ → D) (hi : it ρ = .ok (l.map fun q => .tuple [eb q.1, ec q.2]) ρ1) (hvu : v ≠ u) (hw : wipable ρ1[v]? = true) (hw2 : wipable ρ1[u]? = true) (hz : l.length ≤ sizeLine)
    (h : ∀ q ∈ l, mK e ((ρ1.set v (.cl (eb q.1))).set u (.cl (ec q.2))) = .ok (f q) ((ρ1.set v (.cl (eb q.1))).set u (.cl (ec q.2)))) :
    mLc it (tTup (tsCons (tName v) (tsCons (tName u) tsNil))) tYesM e [v, u] ρ = .ok (.fr (.list (l.map f))) ρ1 := by
  rw [mLc_enc2 (tt := tYesM) eb ec (fun _ => true) f hi hvu hw hw2 hz (fun _ _ => rfl) fun a ha _ => h a ha, List.filter_eq_self.mpr fun _ _ => rfl]
theorem zip_enc {β γ : Type} (eb : β → D) (ec : γ → D) (a : List β) (b : List γ) : zipD (a.map eb) (b.map ec) = (a.zip b).map fun q => .tuple [eb q.1, ec q.2] := by
  unfold zipD
  induction a generalizing b with
  | nil => simp
  | cons x a ih => cases b with
    | nil => simp
    | cons y b => simp [ih]
theorem enum_enc (f : α → D) : ∀ (l : List α) (k : Nat), enumD k (l.map f) = (l.zipIdx k).map fun q => .tuple [.int (q.2 : Nat), f q.1]
  | [], _ => rfl
  | a :: l, k => by
    rw [List.map_cons, List.zipIdx_cons, List.map_cons, ← enum_enc f l (k + 1)]; rfl
end
/-- how great -/
def absI (i : Int) : Int := if i < 0 then -i else i
@[simp] theorem fAbs_A (i : Int) : fAbs (.int i) = some (.val (.int (absI i))) := rfl
theorem absI_nn (i : Int) : 0 ≤ absI i := by unfold absI; split <;> omega
theorem absI_neg (i : Int) : absI (-i) = absI i := by unfold absI; split <;> split <;> omega
theorem absI_pos {i : Int} (h : i ≠ 0) : 0 < absI i := by unfold absI; split <;> omega
theorem atI_pos {α : Type} (xs : List α) {i : Int} (h : 0 ≤ i) : atI xs i = xs[i.toNat]? := by
  unfold atI ixN
  rw [if_pos h]
  by_cases c : i < xs.length
  · rw [if_pos c]; rfl
  · rw [if_neg c, List.getElem?_eq_none (by omega)]; rfl
@[simp] theorem atI_0 {α : Type} (xs : List α) : atI xs 0 = xs[0]? := atI_pos xs (by decide)
@[simp] theorem atI_1 {α : Type} (xs : List α) : atI xs 1 = xs[1]? := atI_pos xs (by decide)
@[simp] theorem atI_2 {α : Type} (xs : List α) : atI xs 2 = xs[2]? := atI_pos xs (by decide)
@[simp] theorem atI_3 {α : Type} (xs : List α) : atI xs 3 = xs[3]? := atI_pos xs (by decide)
@[simp] theorem atI_4 {α : Type} (xs : List α) : atI xs 4 = xs[4]? := atI_pos xs (by decide)
@[simp] theorem atI_nat {α : Type} (xs : List α) (k : Nat) : atI xs (k : Int) = xs[k]? := atI_pos xs (Int.natCast_nonneg k)
theorem ixN_pos {n : Nat} {i : Int} (h : 0 ≤ i) (h2 : i < n) : ixN n i = some i.toNat := by
  unfold ixN
  rw [if_pos h, if_pos h2]
@[simp] theorem ev_SetIx (i : Nat) (mk : M D) (mi : M Op) (ρ : Ev) : sSetIx i mk mi ρ = (mk ρ).bind fun d ρ1 => if (lsS ρ1[i]?).isSome = true then (mi ρ1).bind fun y ρ2 => oNx ((rd ρ2 y).bind fun yd => (isI yd).bind fun k => (lsS ρ2[i]?).bind fun ds => (ixN ds.length k).bind fun j => putA [i] [.list (ds.set j d)] ρ2) else .no := rfl
@[simp] theorem ev_App (i : Nat) (mk : M D) (ρ : Ev) : meApp i mk ρ = if (lsS ρ[i]?).isSome = true then (mk ρ).bind fun d ρ1 => meApp.opt2 ρ1 ((lsS ρ1[i]?).bind fun ds => if ds.length < sizeLine then (putA [i] [.list (ds ++ [d])] ρ1).map fun ρ2 => (.val .none, ρ2) else none) else .no := rfl
@[simp] theorem ev_opt2s (ρ1 ρ2 : Ev) (x : Op) : meApp.opt2 ρ1 (some (x, ρ2)) = .ok x ρ2 := rfl
@[simp] theorem ev_opt2n (ρ1 : Ev) : meApp.opt2 ρ1 none = .no := rfl
@[simp] theorem ev_Ext (i : Nat) (ma : M Op) (ρ : Ev) : meExt i ma ρ = if (lsS ρ[i]?).isSome = true then (ma ρ).bind fun x ρ1 => optE ((lsS ρ1[i]?).bind fun ds => (meExt.rdL ρ1 x).bind fun es => if ds.length + es.length ≤ sizeLine then (putA [i] [.list (ds ++ es)] ρ1).map fun ρ2 => (Op.val .none, ρ2) else none) else .no := rfl
@[simp] theorem ev_rdLf (ρ1 : Ev) (es : List D) : meExt.rdL ρ1 (.fr (.list es)) = some es := rfl
@[simp] theorem ev_rdLs (ρ1 : Ev) (j : Nat) : meExt.rdL ρ1 (.sl j) = lsS ρ1[j]? := rfl
@[simp] theorem ev_PopAt (i : Nat) (ma : M Op) (ρ : Ev) : mePopAt i ma ρ = if (lsS ρ[i]?).isSome = true then (ma ρ).bind fun x ρ1 => optE ((rd ρ1 x).bind fun y => (isI y).bind fun k => (lsS ρ1[i]?).bind fun ds => if okIx k = true then (seqIndex? k ds.length).bind fun j => (ds[j]?).bind fun d => (putA [i] [.list (ds.eraseIdx j)] ρ1).map fun ρ2 => (Op.val d, ρ2) else none) else .no := rfl
theorem seqIx {r : Int} {n : Nat} (h : 0 ≤ r) (h2 : r < n) : seqIndex? r n = some r.toNat := by
  unfold seqIndex?
  have h3 : ¬ r < 0 := by omega
  simp [h3, h, h2]
theorem okIx_of {r : Int} (h : 0 ≤ r) (h2 : r < 1000000) : okIx r = true := by
  simp only [okIx, Bool.and_eq_true, decide_eq_true_eq]
  omega
section
variable (ρ : Ev)
@[simp] theorem ev_Ki (ma : M Op) : mKi ma ρ = (ma ρ).bind fun x ρ1 => optE (kpi ρ1 x) := rfl
@[simp] theorem ev_kiNil : kiNil ρ = .ok [] ρ := rfl
@[simp] theorem ev_kiCons (ma : M Op) (as : M (List D)) : kiCons ma as ρ = (mKi ma ρ).bind fun x ρ1 => (as ρ1).bind fun xs ρ2 => .ok (x :: xs) ρ2 := rfl
@[simp] theorem ev_iFnK (f : List D → Option (List D)) (as : M (List D)) : iFnK f as ρ = (as ρ).bind fun xs ρ1 => opt ρ1 (f xs) := rfl
@[simp] theorem ev_iFn (f : List D → Option (List D)) (as : M (List Op)) : iFn f as ρ = (as ρ).bind fun xs ρ1 => opt ρ1 ((rds ρ1 xs).bind f) := rfl
@[simp] theorem ev_iSeq (ma : M Op) : iSeqM ma ρ = (mKi ma ρ).bind fun d ρ1 => opt ρ1 (itL d) := rfl
@[simp] theorem ev_Yes : tYesM ρ = .ok true ρ := rfl
@[simp] theorem ev_bNo : bNo ρ = .ok none ρ := rfl
@[simp] theorem ev_bAt (ma : M Op) : bAt ma ρ = (ma ρ).bind fun x ρ1 => opt ρ1 ((rd ρ1 x).bind fun d => (isI d).map some) := rfl
@[simp] theorem ev_Sl (f : Option Int → Option Int → D → Option Op) (ma : M Op) (ml mu : M (Option Int)) : mSl f ma ml mu ρ = (ma ρ).bind fun x ρ1 => (ml ρ1).bind fun lo ρ2 => (mu ρ2).bind fun hi ρ3 => opt ρ3 ((rd ρ3 x).bind (f lo hi)) := rfl
@[simp] theorem ev_Rg (ma mb : M Op) : mRg ma mb ρ = (ma ρ).bind fun x ρ1 => (mb ρ1).bind fun y ρ2 => opt ρ2 ((rd ρ2 x).bind fun a => (rd ρ2 y).bind fun b => (isI a).bind fun i => (isI b).bind fun j => if (mRg.okRg i && mRg.okRg j) = true then some (Op.fr (.list (rngD i (j - i).toNat))) else none) := rfl
@[simp] theorem ev_2F (f : D → D → Option Op) (ma mb : M Op) : m2F f ma mb ρ = (ma ρ).bind fun x ρ1 => (mb ρ1).bind fun y ρ2 => opt ρ2 (m2F.frO x |>.bind fun a => (rd ρ2 y).bind fun b => f a b) := rfl
@[simp] theorem ev_frO (d : D) : m2F.frO (.fr d) = some d := rfl
end
@[simp] theorem enm_list (ds : List D) : enm [.list ds] = some (enumD 0 ds) := rfl
@[simp] theorem enm_tup (ds : List D) : enm [.tuple ds] = some (enumD 0 ds) := rfl
@[simp] theorem zp_tt (a b : List D) : zp [.tuple a, .tuple b] = some (zipD a b) := rfl
@[simp] theorem zp_tl (a b : List D) : zp [.tuple a, .list b] = some (zipD a b) := rfl
@[simp] theorem zp_lt (a b : List D) : zp [.list a, .tuple b] = some (zipD a b) := rfl
@[simp] theorem zp_ll (a b : List D) : zp [.list a, .list b] = some (zipD a b) := rfl
@[simp] theorem fSl_list (lo hi : Option Int) (ds : List D) : fSl lo hi (.list ds) = some (.fr (.list (cutD ds lo hi))) := rfl
@[simp] theorem fSl_tup (lo hi : Option Int) (ds : List D) : fSl lo hi (.tuple ds) = some (.val (.tuple (cutD ds lo hi))) := rfl
theorem rng1_of {j : Int} (h : 0 ≤ j) (h2 : j < 1000000) : rng1 [.int j] = some (rngD 0 j.toNat) := by
  show (if bnd j then some (rngD 0 j.toNat) else none) = _
  rw [if_pos]
  simp only [bnd, Bool.and_eq_true, decide_eq_true_eq]; omega
@[simp] theorem eqv_bool (i j : Bool) : PyData.eqv (.bool i) (.bool j) = (i == j) := by simp only [PyData.eqv]
@[simp] theorem fEq_bool (i j : Bool) : fEq (.bool i) (.bool j) = some (.val (.bool (i == j))) := by
  rw [fEq_of (okS_bool i) (okS_bool j), eqv_bool]
@[simp] theorem fNe_bool (i j : Bool) : fNe (.bool i) (.bool j) = some (.val (.bool (!(i == j)))) := by
  rw [fNe_of (okS_bool i) (okS_bool j), eqv_bool]
@[simp] theorem fIs_none (a : D) : fIs a .none = some (.val (.bool (isNo a))) := by cases a <;> rfl
@[simp] theorem fIsNot_none (a : D) : fIsNot a .none = some (.val (.bool (!isNo a))) := by cases a <;> rfl
@[simp] theorem isNo_none : isNo .none = true := rfl
@[simp] theorem isNo_int (i : Int) : isNo (.int i) = false := rfl
@[simp] theorem isNo_bool (i : Bool) : isNo (.bool i) = false := rfl
@[simp] theorem isNo_tup (i : List D) : isNo (.tuple i) = false := rfl
@[simp] theorem isNo_list (i : List D) : isNo (.list i) = false := rfl
@[simp] theorem isNo_str (i : Str) : isNo (.str i) = false := rfl
theorem boolsD_map' {α : Type} (f : α → Bool) (l : List α) : boolsD (l.map fun x => .bool (f x)) = some (l.map f) := by
  have := boolsD_map (l.map f)
  rwa [List.map_map] at this
theorem fAll_map {α : Type} (f : α → Bool) (l : List α) : fAll (.list (l.map fun x => .bool (f x))) = some (.val (.bool (l.all f))) := by
  unfold fAll
  rw [lBools_list, boolsD_map']
  show some (Op.val (.bool ((l.map f).all id))) = _
  rw [List.all_map]; rfl
theorem fAny_map {α : Type} (f : α → Bool) (l : List α) : fAny (.list (l.map fun x => .bool (f x))) = some (.val (.bool (l.any f))) := by
  unfold fAny
  rw [lBools_list, boolsD_map']
  show some (Op.val (.bool ((l.map f).any id))) = _
  rw [List.any_map]; rfl
theorem cut_from (ds : List D) (k : Nat) : cutD ds (some (k : Int)) none = ds.drop k := by
  unfold cutD
  rw [HT.sIx_nat, HT.sIx_none]
  by_cases h : k ≤ ds.length
  · rw [Nat.min_eq_left h, List.take_of_length_le (by rw [List.length_drop]; exact Nat.le_refl _)]
  · rw [Nat.min_eq_right (by omega), List.drop_eq_nil_of_le (by omega), List.drop_eq_nil_of_le (by omega), List.take_nil]
theorem cut_to (ds : List D) (k : Nat) : cutD ds none (some (k : Int)) = ds.take k := by
  unfold cutD
  rw [HT.sIx_nat, HT.sIx_none, List.drop_zero, Nat.sub_zero]
  by_cases h : k ≤ ds.length
  · rw [Nat.min_eq_left h]
  · rw [Nat.min_eq_right (by omega), List.take_length, List.take_of_length_le (by omega)]
theorem cut_1 (ds : List D) : cutD ds (some 1) none = ds.drop 1 := cut_from ds 1
theorem cut_toI (ds : List D) {i : Int} (h : 0 ≤ i) : cutD ds none (some i) = ds.take i.toNat := by
  have := cut_to ds i.toNat
  rwa [Int.toNat_of_nonneg h] at this
theorem cut_fromI (ds : List D) {i : Int} (h : 0 ≤ i) : cutD ds (some i) none = ds.drop i.toNat := by
  have := cut_from ds i.toNat
  rwa [Int.toNat_of_nonneg h] at this
@[simp] theorem rdVs_ints (c : List Int) : rdVs (c.map .int) = some (c.map .int) := by
  induction c with
  | nil => rfl
  | cons i c ih => simp [rdVs, rdV, ih]
theorem inV_ints (i : Int) (c : List Int) : inV (.int i) (c.map .int) = decide (i ∈ c) := by
  unfold inV
  induction c with
  | nil => rfl
  | cons j c ih =>
    rw [List.map_cons, List.any_cons, ih]
    show ((j == i) || decide (i ∈ c)) = decide (i ∈ j :: c)
    by_cases h : i = j
    · subst h; simp
    · have : (j == i) = false := by simpa using fun z => h z.symm
      rw [this]; simp [h]
theorem inF_ints (i : Int) (c : List Int) : inF (.int i) (c.map .int) = some (decide (i ∈ c)) := by
  unfold inF
  rw [rdVs_ints]
  show some (inV (.int i) (c.map .int)) = _
  rw [inV_ints]
theorem fIn_I (i : Int) (c : List Int) : fIn (.int i) (encI c) = some (.val (.bool (decide (i ∈ c)))) := by
  show (inF (.int i) (c.map .int)).map _ = _
  rw [inF_ints]; rfl
theorem fNotIn_I (i : Int) (c : List Int) : fNotIn (.int i) (encI c) = some (.val (.bool (!decide (i ∈ c)))) := by
  show (inF (.int i) (c.map .int)).map _ = _
  rw [inF_ints]; rfl
theorem fIn_IL (i : Int) (c : List Int) : fIn (.int i) (.list (c.map .int)) = some (.val (.bool (decide (i ∈ c)))) := by
  show (inO (inF (.int i) (c.map .int)) _).map _ = _
  rw [inF_ints]; rfl
theorem fNotIn_IL (i : Int) (c : List Int) : fNotIn (.int i) (.list (c.map .int)) = some (.val (.bool (!decide (i ∈ c)))) := by
  show (inO (inF (.int i) (c.map .int)) _).map _ = _
  rw [inF_ints]; rfl
/-- a tuple of ints among tuples of ints -/
theorem fIn_C (a : List Int) (bs : List (List Int)) : fIn (encI a) (.list (bs.map encI)) = some (.val (.bool (decide (a ∈ bs)))) := by
  have h1 : okS (encI a) = true := (shp_I a).ok (by decide)
  have h2 : okS (.list (bs.map encI)) = true := (Shp.lst (n := 1) fun d hd => by
    obtain ⟨b, _, e⟩ := List.mem_map.mp hd
    subst e; exact shp_I b).ok (by decide)
  show (inO none (inDp (encI a) (bs.map encI))).map _ = _
  unfold inDp
  rw [h1, h2]
  show (some ((bs.map encI).any fun z => PyData.eqv z (encI a))).map _ = _
  have : ((bs.map encI).any fun z => PyData.eqv z (encI a)) = decide (a ∈ bs) := by
    induction bs with
    | nil => rfl
    | cons b bs ih =>
      have ih := ih ((Shp.lst (n := 1) fun d hd => by
        obtain ⟨b, _, e⟩ := List.mem_map.mp hd
        subst e; exact shp_I b).ok (by decide))
      rw [List.map_cons, List.any_cons, ih, eqv_I]
      by_cases h : b = a
      · subst h; simp
      · have h3 : ¬ a = b := fun z => h z.symm
        simp [h, h3]
  rw [this]; rfl
end Vx
set_option maxHeartbeats 2000000
namespace Lb
open PySem PySem.Spec L2 Vx
def m_is_integer : M Fl :=
    (sRet (mAndV (mT (m1 (fIsi ["int", "bool"]) (mV 0))) (mNotV (mT (m1 (fIsi ["bool"]) (mV 0))))))
def g_is_integer : List D → FR := runD [.pl] 0 m_is_integer
def m_two_to : M Fl :=
    (sRet (m2 fShl (mC (.int 1)) (mV 0)))
def g_two_to : List D → FR := runD [.pl] 0 m_two_to
def m_bits_of_1 : M Fl :=
    (sSeq (sDrop (meApp 2 (mK (m2 fMod (mV 0) (mC (.int 2))))))
    (sSet 0 (m2 fDiv (mV 0) (mC (.int 2)))))
def m_bits_of : M Fl :=
    (sSeq (sSet 2 (mLst kNil))
    (sSeq (sFor (iFn rng1 (aCons (mV 1) aNil)) (tName 3) m_bits_of_1)
    (sRet (mB (f1 fTuple) (aCons (m1 fRev (mV 2)) aNil)))))
def g_bits_of : List D → FR := runD [.pl, .pl] 2 m_bits_of
def m_holds_in_1 : M Op :=
    (m2 fEq (m2 fIx (mV 1) (m2 fSub (mB (f1 fAbs) (aCons (mV 2) aNil)) (mC (.int 1)))) (mB (f1 fInt) (aCons (m2 fGt (mV 2) (mC (.int 0))) aNil)))
def m_holds_in : M Fl :=
    (sRet (mB (f1 fAny) (aCons (mLc (iSeqM (mV 0)) (tName 2) tYesM m_holds_in_1 [2]) aNil)))
def g_holds_in : List D → FR := runD [.pl, .pl] 1 m_holds_in
def m__law_draw : M Fl :=
    (sSeq (sIf (mAnd (mT (m2 fEq (m2 fIx (mV 0) (mC (.int 2))) (mC (.int 0)))) (mT (m2 fLt (m2 fIx (mV 0) (mC (.int 1))) (mB (f1 fLen) (aCons (m2 fIx (mV 0) (mC (.int 0))) aNil))))) (sSeq (sSet 3 (m2 fIx (m2 fIx (mV 0) (mC (.int 0))) (m2 fIx (mV 0) (mC (.int 1)))))
    (sSeq (sSetIx 0 (mK (m2 fAdd (m2 fIx (mV 0) (mC (.int 1))) (mC (.int 1)))) (mC (.int 1)))
    (sSeq (sSetIx 0 (mK (m2 fMod (mB (f1 fInt) (aCons (m2 fAdd (m2 fAdd (m2 fMul (m2 fIx (mV 0) (mC (.int 3))) (mC (.int 69621))) (m2 fMul (mV 3) (mC (.int 48271)))) (mC (.int 17))) aNil)) (mC (.int 2147483629)))) (mC (.int 3)))
    (sIf (mT (m2 fGe (mV 3) (m2 fPow (mC (.int 10)) (mC (.int 18))))) (sSetIx 0 (mK (mV 3)) (mC (.int 2))) sNx)))) sNx)
    (sSeq (sIf (mT (m2 fGt (m2 fIx (mV 0) (mC (.int 2))) (mC (.int 0)))) (sSeq (sSet 4 (m2 fMod (mB (f1 fInt) (aCons (m2 fIx (mV 0) (mC (.int 2))) aNil)) (mV 1)))
    (sSeq (sSetIx 0 (mK (m2 fDiv (m2 fIx (mV 0) (mC (.int 2))) (mV 1))) (mC (.int 2)))
    (sRet (mV 4)))) sNx)
    (sSeq (sSetIx 0 (mK (m2 fAdd (m2 fIx (mV 0) (mC (.int 4))) (mC (.int 1)))) (mC (.int 4)))
    (sSeq (sSet 2 (m2 fMod (mB (f1 fInt) (aCons (m2 fMul (mB (f1 fInt) (aCons (m2 fAdd (m2 fIx (mV 0) (mC (.int 3))) (m2 fMul (mC (.int 7919)) (m2 fIx (mV 0) (mC (.int 4))))) aNil)) (mC (.int 40692))) aNil)) (mC (.int 2147483647))))
    (sSeq (sSet 2 (m2 fMod (mB (f1 fInt) (aCons (m2 fMul (mV 2) (m2 fAdd (m2 fDiv (mV 2) (mC (.int 1009))) (mC (.int 69621)))) aNil)) (mC (.int 2147483647))))
    (sSeq (sSet 2 (m2 fMod (mB (f1 fInt) (aCons (m2 fMul (mV 2) (m2 fAdd (m2 fDiv (mV 2) (mC (.int 2003))) (mC (.int 40014)))) aNil)) (mC (.int 2147483563))))
    (sRet (m2 fMod (mB (f1 fInt) (aCons (m2 fDiv (mV 2) (mC (.int 16))) aNil)) (mV 1)))))))))
def g__law_draw : List D → FR := runD [.mu, .pl] 3 m__law_draw
def m__law_worlds_1 : M Fl :=
    (sDrop (meExt 3 (mLst (kCons (m2 fAdd (mV 4) (mTup (kCons (mC (.int 0)) kNil))) (kCons (m2 fAdd (mV 4) (mTup (kCons (mC (.int 1)) kNil))) kNil)))))
def m__law_worlds_2 : M Fl :=
    (sSeq (sSet 3 (mLst kNil))
    (sSeq (sFor (iSeqM (mV 1)) (tName 4) m__law_worlds_1)
    (sSet 1 (mV 3))))
def m__law_worlds : M Fl :=
    (sSeq (sSet 1 (mLst (kCons (mTup kNil) kNil)))
    (sSeq (sFor (iFn rng1 (aCons (mV 0) aNil)) (tName 2) m__law_worlds_2)
    (sRet (mV 1))))
def g__law_worlds : List D → FR := runD [.pl] 4 m__law_worlds
def m__law_breaks_1 : M Op :=
    (m2 fEq (m2 fIx (mV 1) (m2 fSub (mB (f1 fAbs) (aCons (mV 2) aNil)) (mC (.int 1)))) (mB (f1 fInt) (aCons (m2 fGt (mV 2) (mC (.int 0))) aNil)))
def m__law_breaks : M Fl :=
    (sRet (mNotV (mT (mB (f1 fAny) (aCons (mLc (iSeqM (mV 0)) (tName 2) tYesM m__law_breaks_1 [2]) aNil)))))
def g__law_breaks : List D → FR := runD [.pl, .pl] 1 m__law_breaks
def m_is_within : M Fl :=
    (sRet (mAndV (mT (mCall g_is_integer [.pl] (aCons (mV 0) aNil))) (mChain fLe fLe (mV 1) (mV 0) (mV 2))))
def g_is_within : List D → FR := runD [.pl, .pl, .pl] 0 m_is_within
def m_first_broken_1 : M Fl :=
    (sIf (mNot (mTr (mCall g_holds_in [.pl, .pl] (aCons (mV 3) (aCons (mV 1) aNil))))) (sRet (mV 2)) sNx)
def m_first_broken : M Fl :=
    (sSeq (sFor (iFnK enm (kiCons (mV 0) kiNil)) (tTup (tsCons (tName 2) (tsCons (tName 3) tsNil))) m_first_broken_1)
    (sRet (mC .none)))
def g_first_broken : List D → FR := runD [.pl, .pl] 2 m_first_broken
def m__law_any : M Fl :=
    (sRet (m2 fIx (mV 1) (mCall g__law_draw [.mu, .pl] (aCons (mV 0) (aCons (mB (f1 fLen) (aCons (mV 1) aNil)) aNil)))))
def g__law_any : List D → FR := runD [.mu, .pl] 0 m__law_any
def m__law_mixed_1 : M Bool :=
    (mT (m2 fGt (mB (f1 fLen) (aCons (mV 2) aNil)) (mC (.int 0))))
def m__law_mixed_2 : M Fl :=
    (sDrop (meApp 3 (mK (mePopAt 2 (mCall g__law_draw [.mu, .pl] (aCons (mV 0) (aCons (mB (f1 fLen) (aCons (mV 2) aNil)) aNil)))))))
def m__law_mixed : M Fl :=
    (sSeq (sPar 2 3 (mB (f1 fList) (aCons (mV 1) aNil)) (mLst kNil))
    (sSeq (sWhile 1000 m__law_mixed_1 m__law_mixed_2)
    (sRet (mV 3))))
def g__law_mixed : List D → FR := runD [.mu, .pl] 2 m__law_mixed
def m__law_same_1 (n : Nat) (g__law_same : Nat → List D → FR) : M Op :=
    (mCall (g__law_same n) [.pl, .pl] (aCons (mV 2) (aCons (mV 3) aNil)))
def m__law_same (n : Nat) (g__law_same : Nat → List D → FR) : M Fl :=
    (sSeq (sIf (mOr (mT (m1 (fIsi ["tuple"]) (mV 1))) (mT (m1 (fIsi ["list"]) (mV 1)))) (sSeq (sIf (mOr (mT (m2 fNe (m1 (fIsi ["tuple"]) (mV 0)) (m1 (fIsi ["tuple"]) (mV 1)))) (mT (m2 fNe (m1 (fIsi ["list"]) (mV 0)) (m1 (fIsi ["list"]) (mV 1))))) (sRet (mC (.bool false))) sNx)
    (sRet (mAndV (mT (m2 fEq (mB (f1 fLen) (aCons (mV 0) aNil)) (mB (f1 fLen) (aCons (mV 1) aNil)))) (mB (f1 fAll) (aCons (mLc (iFnK zp (kiCons (mV 0) (kiCons (mV 1) kiNil))) (tTup (tsCons (tName 2) (tsCons (tName 3) tsNil))) tYesM (m__law_same_1 n g__law_same) [2, 3]) aNil))))) sNx)
    (sSeq (sIf (mOr (mT (m2 fNe (m1 (fIsi ["bool"]) (mV 0)) (m1 (fIsi ["bool"]) (mV 1)))) (mT (m2 fNe (m2 fIs (mV 0) (mC .none)) (m2 fIs (mV 1) (mC .none))))) (sRet (mC (.bool false))) sNx)
    (sRet (mAndV (mT (m2 fEq (m1 (fIsi ["int", "bool"]) (mV 0)) (m1 (fIsi ["int", "bool"]) (mV 1)))) (m2 fEq (mV 0) (mV 1))))))
def g__law_same : Nat → List D → FR
  | 0 => fun _ => .no
  | n + 1 => runD [.pl, .pl] 2 (m__law_same n fun _ => g__law_same n)
theorem is_integer (d : D) : g_is_integer [d] = .ok false (.bool (tyD d == "int")) [] := by cases d <;> rfl
theorem is_within (i a b : Int) : g_is_within [.int i, .int a, .int b] = .ok false (.bool (decide (a ≤ i) && decide (i ≤ b))) [] := by
  by_cases h : a ≤ i <;> simp [g_is_within, runD, m_is_within, is_integer, h]
theorem is_within_no (d : D) (a b : Int) (h : tyD d ≠ "int") : g_is_within [d, .int a, .int b] = .ok false (.bool false) [] := by
  cases d <;> first
    | exact absurd rfl h
    | simp [g_is_within, runD, m_is_within, is_integer]
theorem two_to (n : Int) (h : okPow 1 n = true) : g_two_to [.int n] = .ok false (.int (2 ^ n.toNat)) [] := by
  simp [g_two_to, runD, m_two_to, fShl_int h]
/-- a hand: the cells that are left, the great one that is cut up, the running number, the turns -/
structure Hnd where
  cells : List Int
  pos : Nat
  big : Int
  acc : Int
  cnt : Int
def Hnd.d (h : Hnd) : D := .list [.list (h.cells.map .int), .int h.pos, .int h.big, .int h.acc, .int h.cnt]
/-- good for n more draws -/
structure Hnd.Ok (n : Nat) (h : Hnd) : Prop where
  cells : ∀ c ∈ h.cells, 0 ≤ c ∧ c.natAbs < 2 ^ 1048576
  big : 0 ≤ h.big
  acc : 0 ≤ h.acc ∧ h.acc < 4294967296
  cnt : 0 ≤ h.cnt ∧ h.cnt + n ≤ 18446744073709551616
/-- the first part of a draw: a cell is taken -/
def Hnd.take (h : Hnd) : Hnd := if h.big = 0 then (match h.cells[h.pos]? with
  | some c => { h with pos := h.pos + 1, acc := (h.acc * 69621 + c * 48271 + 17) % 2147483629, big := if 10 ^ 18 ≤ c then c else h.big }
  | none => h) else h
def Hnd.num (h : Hnd) : Int :=
  let n1 := ((h.acc + 7919 * (h.cnt + 1)) * 40692) % 2147483647
  let n2 := (n1 * (n1 / 1009 + 69621)) % 2147483647
  (n2 * (n2 / 2003 + 40014)) % 2147483563
def Hnd.draw (h : Hnd) (m : Int) : Int × Hnd := if 0 < h.take.big then (h.take.big % m, { h.take with big := h.take.big / m }) else (h.take.num / 16 % m, { h.take with cnt := h.take.cnt + 1 })
theorem ix50 : ixN 5 0 = some 0 := rfl
theorem ix51 : ixN 5 1 = some 1 := rfl
theorem ix52 : ixN 5 2 = some 2 := rfl
theorem ix53 : ixN 5 3 = some 3 := rfl
theorem ix54 : ixN 5 4 = some 4 := rfl
theorem okM {i j : Int} (h1 : 0 ≤ i) (h2 : i < 1208925819614629174706176) (h3 : 0 ≤ j) (h4 : j < 1208925819614629174706176) : okMul i j = true :=
  okMul_of (a := 80) (b := 80) (by omega) (by omega) (by decide)
theorem okD {m : Int} (hm : 0 < m) (hm2 : m < 1000000) : okDivW m = true := by
  unfold okDivW
  rw [Bool.and_eq_true]
  refine ⟨decide_eq_true hm, decide_eq_true ?_⟩
  have : m.natAbs < 2 ^ 8999 := Nat.lt_of_lt_of_le (show m.natAbs < 2 ^ 20 by omega) (Nat.pow_le_pow_right (by decide) (by decide))
  by_cases z : m.natAbs = 0
  · rw [z]; decide
  · exact Nat.lt_of_lt_of_le ((Nat.log2_lt z).mpr this) (by decide)
section
variable (h : Hnd) {n : Nat} (w : h.Ok (n + 1)) (m : Int) (hm : 0 < m) (hm2 : m < 1000000)
theorem md1 (i : Int) : fMod (.int i) (.int 2147483647) = some (.val (.int (i % 2147483647))) := fMod_int (by decide)
theorem md2 (i : Int) : fMod (.int i) (.int 2147483563) = some (.val (.int (i % 2147483563))) := fMod_int (by decide)
theorem md3 (i : Int) : fMod (.int i) (.int 2147483629) = some (.val (.int (i % 2147483629))) := fMod_int (by decide)
theorem dv1 (i : Int) : fDiv (.int i) (.int 1009) = some (.val (.int (i / 1009))) := fDiv_int (okD (by decide) (by decide))
theorem dv2 (i : Int) : fDiv (.int i) (.int 2003) = some (.val (.int (i / 2003))) := fDiv_int (okD (by decide) (by decide))
theorem dv3 (i : Int) : fDiv (.int i) (.int 16) = some (.val (.int (i / 16))) := fDiv_int (okD (by decide) (by decide))
theorem p18 : fPow (.int 10) (.int 18) = some (.val (.int 1000000000000000000)) := by
  rw [fPow_int (by decide)]; rfl
theorem run_facts {a c : Int} (a1 : 0 ≤ a) (a2 : a < 4294967296) (c1 : 0 ≤ c) (c2 : c < 18446744073709551616) : okMul 7919 (c + 1) = true ∧ okMul (a + 7919 * (c + 1)) 40692 = true ∧ ∃ n1 n2, (a + 7919 * (c + 1)) * 40692 % 2147483647 = n1 ∧ okMul n1 (n1 / 1009 + 69621) = true ∧ n1 * (n1 / 1009 + 69621) % 2147483647 = n2 ∧ okMul n2 (n2 / 2003 + 40014) = true ∧ 0 ≤ n2 := by
  have b1 := Int.emod_nonneg ((a + 7919 * (c + 1)) * 40692) (show (2147483647 : Int) ≠ 0 by decide)
  have b2 := Int.emod_lt_of_pos ((a + 7919 * (c + 1)) * 40692) (show (0 : Int) < 2147483647 by decide)
  refine ⟨okM (by decide) (by decide) (by omega) (by omega), okM (by omega) (by omega) (by decide) (by decide), ?_⟩
  generalize (a + 7919 * (c + 1)) * 40692 % 2147483647 = n1 at b1 b2
  have b3 := Int.emod_nonneg (n1 * (n1 / 1009 + 69621)) (show (2147483647 : Int) ≠ 0 by decide)
  have b4 := Int.emod_lt_of_pos (n1 * (n1 / 1009 + 69621)) (show (0 : Int) < 2147483647 by decide)
  refine ⟨n1, _, rfl, okM b1 (by omega) (by omega) (by omega), rfl, ?_, b3⟩
  generalize n1 * (n1 / 1009 + 69621) % 2147483647 = n2 at b3 b4
  exact okM b3 (by omega) (by omega) (by omega)
theorem num_eq {k : Hnd} {n1 n2 : Int} (e1 : (k.acc + 7919 * (k.cnt + 1)) * 40692 % 2147483647 = n1) (e2 : n1 * (n1 / 1009 + 69621) % 2147483647 = n2) : k.num = n2 * (n2 / 2003 + 40014) % 2147483563 := by
  unfold Hnd.num; simp only [e1, e2]
include w hm hm2
theorem draw_eq : g__law_draw [h.d, .int m] = .ok false (.int (h.draw m).1) [(h.draw m).2.d] := by
  obtain ⟨a1, a2⟩ := w.acc
  obtain ⟨c1, c2⟩ := w.cnt
  have dm := okD hm hm2
  by_cases hb : h.big = 0
  · cases hc : h.cells[h.pos]? with
    | none =>
      have hl : ¬ ((h.pos : Int) < h.cells.length) := by
        have := List.getElem?_eq_none_iff.mp hc
        omega
      have ht : h.take = h := by unfold Hnd.take; rw [if_pos hb, hc]
      obtain ⟨k1, k2, n1, n2, e1, k3, e2, k4, _⟩ := run_facts a1 a2 c1 (by omega)
      have hd : h.draw m = (h.num / 16 % m, { h with cnt := h.cnt + 1 }) := by
        unfold Hnd.draw; rw [ht, if_neg (by rw [hb]; decide)]
      rw [hd, num_eq e1 e2]
      simp -implicitDefEqProofs [g__law_draw, runD, m__law_draw, Hnd.d, hb, hl, ix50, ix51, ix52, ix53, ix54, fMod_int hm, fDiv_int dm, fMul_int k1, fMul_int k2, fMul_int k3, fMul_int k4, md1, md2, md3, dv1, dv2, dv3, e1, e2]
    | some c =>
      have hl : (h.pos : Int) < h.cells.length := by
        have := (List.getElem?_eq_some_iff.mp hc).1
        omega
      obtain ⟨q1, q2⟩ := w.cells c (List.mem_of_getElem? hc)
      have k5 : okMul h.acc 69621 = true := okM a1 (by omega) (by decide) (by decide)
      have k6 : okMul c 48271 = true := okMul_of (a := 1048576) (b := 16) q2 (by decide) (by decide)
      have hcm : (h.cells.map PyData.int)[h.pos]? = some (.int c) := by rw [List.getElem?_map, hc]; rfl
      by_cases hg : 1000000000000000000 ≤ c
      · have ht : h.take = { h with pos := h.pos + 1, acc := (h.acc * 69621 + c * 48271 + 17) % 2147483629, big := c } := by unfold Hnd.take; rw [if_pos hb, hc]; simp [hg]
        have hd : h.draw m = (c % m, { h with pos := h.pos + 1, acc := (h.acc * 69621 + c * 48271 + 17) % 2147483629, big := c / m }) := by
          unfold Hnd.draw; rw [ht, if_pos (by show 0 < c; omega)]
        have hp : 0 < c := by omega
        rw [hd]
        simp -implicitDefEqProofs [g__law_draw, runD, m__law_draw, Hnd.d, hb, hl, ix50, ix51, ix52, ix53, ix54, fMod_int hm, fDiv_int dm, fMul_int k5, fMul_int k6, md3, p18, hg, hp, hc]
      · have ht : h.take = { h with pos := h.pos + 1, acc := (h.acc * 69621 + c * 48271 + 17) % 2147483629, big := 0 } := by unfold Hnd.take; rw [if_pos hb, hc]; simp [hg, hb]
        have b1 := Int.emod_nonneg (h.acc * 69621 + c * 48271 + 17) (show (2147483629 : Int) ≠ 0 by decide)
        have b2 := Int.emod_lt_of_pos (h.acc * 69621 + c * 48271 + 17) (show (0 : Int) < 2147483629 by decide)
        generalize e5 : (h.acc * 69621 + c * 48271 + 17) % 2147483629 = a5 at b1 b2 ht
        obtain ⟨k1, k2, n1, n2, e1, k3, e2, k4, _⟩ := run_facts b1 (by omega) c1 (by omega)
        have hd : h.draw m = (n2 * (n2 / 2003 + 40014) % 2147483563 / 16 % m, { h with pos := h.pos + 1, acc := a5, big := 0, cnt := h.cnt + 1 }) := by
          unfold Hnd.draw; rw [ht, if_neg (show ¬ ((0 : Int) < 0) by decide), num_eq e1 e2]
        rw [hd]
        simp -implicitDefEqProofs [g__law_draw, runD, m__law_draw, Hnd.d, hb, hl, ix50, ix51, ix52, ix53, ix54, fMod_int hm, fDiv_int dm, fMul_int k1, fMul_int k2, fMul_int k3, fMul_int k4, fMul_int k5, fMul_int k6, md1, md2, md3, dv1, dv2, dv3, e1, e2, e5, p18, hg, hc]
  · have hp : 0 < h.big := by have := w.big; omega
    have ht : h.take = h := by unfold Hnd.take; rw [if_neg hb]
    have hd : h.draw m = (h.big % m, { h with big := h.big / m }) := by
      unfold Hnd.draw; rw [ht, if_pos hp]
    rw [hd]
    simp -implicitDefEqProofs [g__law_draw, runD, m__law_draw, Hnd.d, hb, hp, ix50, ix51, ix52, ix53, ix54, fMod_int hm, fDiv_int dm]
theorem draw_ok : 0 ≤ (h.draw m).1 ∧ (h.draw m).1 < m ∧ (h.draw m).2.Ok n := by
  obtain ⟨a1, a2⟩ := w.acc
  obtain ⟨c1, c2⟩ := w.cnt
  have tk : h.take.Ok (n + 1) := by
    unfold Hnd.take
    by_cases hb : h.big = 0
    · rw [if_pos hb]
      cases hc : h.cells[h.pos]? with
      | none => exact w
      | some c =>
        obtain ⟨q1, q2⟩ := w.cells c (List.mem_of_getElem? hc)
        have b1 := Int.emod_nonneg (h.acc * 69621 + c * 48271 + 17) (show (2147483629 : Int) ≠ 0 by decide)
        have b2 := Int.emod_lt_of_pos (h.acc * 69621 + c * 48271 + 17) (show (0 : Int) < 2147483629 by decide)
        refine ⟨w.cells, ?_, ⟨b1, ?_⟩, w.cnt⟩
        · show 0 ≤ (if 10 ^ 18 ≤ c then c else h.big)
          split
          · exact q1
          · exact w.big
        · show (h.acc * 69621 + c * 48271 + 17) % 2147483629 < 4294967296
          omega
    · rw [if_neg hb]; exact w
  unfold Hnd.draw
  generalize h.take = k at tk
  obtain ⟨d1, d2⟩ := tk.cnt
  by_cases hp : 0 < k.big
  · rw [if_pos hp]
    exact ⟨Int.emod_nonneg _ (by omega), Int.emod_lt_of_pos _ hm, tk.cells, Int.ediv_nonneg tk.big (by omega), tk.acc, d1, show k.cnt + (n : Int) ≤ _ by omega⟩
  · rw [if_neg hp]
    exact ⟨Int.emod_nonneg _ (by omega), Int.emod_lt_of_pos _ hm, tk.cells, tk.big, tk.acc, show 0 ≤ k.cnt + 1 by omega, show k.cnt + 1 + (n : Int) ≤ _ by omega⟩
end
/-- a draw -/
theorem draw {h : Hnd} {n : Nat} (w : h.Ok (n + 1)) {m : Int} (hm : 0 < m) (hm2 : m < 1000000) : ∃ r h', g__law_draw [h.d, .int m] = .ok false (.int r) [Hnd.d h'] ∧ 0 ≤ r ∧ r < m ∧ h'.Ok n :=
  ⟨_, _, draw_eq h w m hm hm2, draw_ok h w m hm hm2⟩
theorem Hnd.Ok.mono {h : Hnd} {n m : Nat} (w : h.Ok n) (l : m ≤ n) : h.Ok m := ⟨w.cells, w.big, w.acc, w.cnt.1, by have := w.cnt.2; omega⟩
/-- an item is drawn -/
theorem any {h : Hnd} {n : Nat} (w : h.Ok (n + 1)) {ds : List D} (h0 : ds ≠ []) (hz : ds.length < 1000000) : ∃ d h', g__law_any [h.d, .list ds] = .ok false d [Hnd.d h'] ∧ d ∈ ds ∧ h'.Ok n := by
  have hp : 0 < ds.length := List.length_pos_iff.mpr h0
  obtain ⟨r, h', e, r1, r2, w'⟩ := draw w (m := (ds.length : Int)) (by omega) (by omega)
  have hr : r.toNat < ds.length := by omega
  refine ⟨ds[r.toNat], h', ?_, List.getElem_mem hr, w'⟩
  have ei : atI ds r = some ds[r.toNat] := by rw [atI_pos ds r1, List.getElem?_eq_getElem hr]
  simp -implicitDefEqProofs [g__law_any, runD, m__law_any, e, ei]
theorem fLen_pos (ds : List D) : fGt (.int (ds.length : Int)) (.int 0) = some (.val (.bool (decide (0 < ds.length)))) := by
  rw [fGt_int]
  by_cases h : 0 < ds.length
  · rw [decide_eq_true (show (0 : Int) < ds.length by omega), decide_eq_true h]
  · rw [decide_eq_false (show ¬ (0 : Int) < ds.length by omega), decide_eq_false h]
theorem perm_erase {α : Type} : ∀ {pool : List α} {r : Nat} (h : r < pool.length), (pool[r] :: pool.eraseIdx r).Perm pool
  | x :: pool, 0, _ => List.Perm.refl _
  | x :: pool, r + 1, h => (List.Perm.swap x _ _).trans ((perm_erase (pool := pool) (r := r) (by simpa using h)).cons x)
theorem perm_take {α : Type} (found : List α) : ∀ {pool : List α} {r : Nat} (h : r < pool.length), (found ++ [pool[r]] ++ pool.eraseIdx r).Perm (found ++ pool) := fun {pool r} h => by
  rw [List.append_assoc]
  refine List.Perm.append_left found ?_
  exact perm_erase h
/-- the things in another order -/
theorem mixed {h : Hnd} {n : Nat} {ds : List D} (w : h.Ok (n + ds.length)) (hz : ds.length < 900) : ∃ es h', g__law_mixed [h.d, .list ds] = .ok true (.list es) [Hnd.d h'] ∧ es.Perm ds ∧ h'.Ok n := by
  let P : Nat → Ev → Prop := fun m ρ => ∃ (k : Hnd) (pool found : List D), ρ = [.le k.d, .bo (.list ds), .ow (.list pool), .ow (.list found)] ∧ (found ++ pool).Perm ds ∧ pool.length = m ∧ k.Ok (n + m)
  let Q : Ev → Prop := fun ρ => ∃ (k : Hnd) (pool found : List D), ρ = [.le k.d, .bo (.list ds), .ow (.list pool), .ow (.list found)] ∧ found.Perm ds ∧ k.Ok n
  have hP : P ds.length [.le h.d, .bo (.list ds), .ow (.list ds), .ow (.list [])] := ⟨h, ds, [], rfl, List.Perm.refl _, rfl, w⟩
  obtain ⟨ρ', e, k, pool, found, eρ, pf, wk⟩ := whI_inv (c := m__law_mixed_1) (b := m__law_mixed_2) (P := P) (Q := Q) (fun m ρ hp => by
    obtain ⟨k, pool, found, eρ, pf, pl, wk⟩ := hp
    subst eρ
    have hpl : found.length + pool.length = ds.length := by
      have := pf.length_eq
      rwa [List.length_append] at this
    cases m with
    | zero =>
      refine .inl ⟨_, ?_, k, pool, found, rfl, ?_, wk⟩
      · simp -implicitDefEqProofs [m__law_mixed_1, pl]
      · have : pool = [] := List.length_eq_zero_iff.mp pl
        rw [this, List.append_nil] at pf; exact pf
    | succ m =>
      obtain ⟨r, k', e, r1, r2, wk'⟩ := draw (h := k) (n := n + m) wk (m := (pool.length : Int)) (by omega) (by omega)
      have hr : r.toNat < pool.length := by omega
      have ok : okIx r = true := okIx_of r1 (by omega)
      have hlt : found.length < sizeLine := Nat.lt_of_lt_of_le (show found.length < 900 by omega) (by decide)
      refine .inr ⟨m, rfl, [.le k.d, .bo (.list ds), .ow (.list pool), .ow (.list found)], [.le k'.d, .bo (.list ds), .ow (.list (pool.eraseIdx r.toNat)), .ow (.list (found ++ [pool[r.toNat]]))], ?_, .inl ?_, k', _, _, rfl, (perm_take found hr).trans pf, ?_, wk'⟩
      · simp -implicitDefEqProofs [m__law_mixed_1, pl]
      · simp -implicitDefEqProofs [m__law_mixed_2, e, ok, seqIx r1 r2, List.getElem?_eq_getElem hr, hlt]
      · rw [List.length_eraseIdx, if_pos hr]; omega) ds.length 1000 _ (by omega) hP
  subst eρ
  refine ⟨found, k, ?_, pf, wk⟩
  simp -implicitDefEqProofs [g__law_mixed, runD, m__law_mixed, e]
/-- data of ints, flags, None, lists, tuples, of depth n at most -/
inductive Tr : Nat → D → Prop
  | int (n : Nat) (i : Int) : Tr n (.int i)
  | bool (n : Nat) (i : Bool) : Tr n (.bool i)
  | none (n : Nat) : Tr n .none
  | tup {n : Nat} {ds : List D} : (∀ d ∈ ds, Tr n d) → ds.length ≤ sizeLine → Tr (n + 1) (.tuple ds)
  | lst {n : Nat} {ds : List D} : (∀ d ∈ ds, Tr n d) → ds.length ≤ sizeLine → Tr (n + 1) (.list ds)
theorem Tr.shp {n : Nat} {d : D} (h : Tr n d) : Shp n d := by
  induction h with
  | int n i => exact Shp.int n i
  | bool n i => exact Shp.bool n i
  | none n => exact Shp.none n
  | tup _ _ ih => exact Shp.tup ih
  | lst _ _ ih => exact Shp.lst ih
theorem Tr.mono {n : Nat} {d : D} (h : Tr n d) : ∀ {m : Nat}, n ≤ m → Tr m d := by
  induction h with
  | int n i => exact fun _ => .int _ i
  | bool n i => exact fun _ => .bool _ i
  | none n => exact fun _ => .none _
  | tup _ hz ih =>
    intro m l
    match m, l with
    | m + 1, l => exact .tup (fun d hd => ih d hd (by omega)) hz
  | lst _ hz ih =>
    intro m l
    match m, l with
    | m + 1, l => exact .lst (fun d hd => ih d hd (by omega)) hz
theorem zip_self (ds : List D) : zipD ds ds = ds.map fun d => .tuple [d, d] := by
  unfold zipD
  induction ds with
  | nil => rfl
  | cons d ds ih => simp [ih]
/-- the same thing twice -/
theorem same : ∀ (n : Nat) (d : D), Tr n d → n ≤ 60 → g__law_same (n + 1) [d, d] = .ok false (.bool true) [] := by
  intro n d h hn
  have comp : ∀ (n : Nat) (ds : List D) (s : Sl), (s = .bo (.list ds) ∨ s = .cl (.tuple ds)) → (∀ d ∈ ds, g__law_same (n + 1) [d, d] = .ok false (.bool true) []) → ds.length ≤ sizeLine →
      mLc (iFnK zp (kiCons (mV 0) (kiCons (mV 1) kiNil))) (tTup (tsCons (tName 2) (tsCons (tName 3) tsNil))) tYesM (m__law_same_1 (n + 1) fun _ => g__law_same (n + 1)) [2, 3] [s, s, .un, .un] = .ok (.fr (.list (ds.map fun _ => .bool true))) [s, s, .un, .un] := by
    intro n ds s hs ih hz
    have := mLc_pair (it := iFnK zp (kiCons (mV 0) (kiCons (mV 1) kiNil))) (v := 2) (u := 3) (tt := tYesM) (e := m__law_same_1 (n + 1) fun _ => g__law_same (n + 1)) (ρ := [s, s, .un, .un]) (ρ1 := [s, s, .un, .un]) (ds := zipD ds ds) (fun _ => true) (fun _ => .bool true)
      (by rcases hs with e | e <;> (subst e; simp -implicitDefEqProofs)) (by decide) rfl rfl (by rw [zip_self, List.length_map]; exact hz) (fun d hd => by
        rw [zip_self] at hd
        obtain ⟨x, hx, e⟩ := List.mem_map.mp hd
        refine ⟨x, x, e.symm, rfl, fun _ => ?_⟩
        simp -implicitDefEqProofs [m__law_same_1, ih x hx])
    rw [this, zip_self, List.filter_eq_self.mpr fun _ _ => rfl, List.map_map]
    rfl
  have eq : ∀ (n : Nat) (ds : List D), g__law_same (n + 1) ds = runD [.pl, .pl] 2 (m__law_same n fun _ => g__law_same n) ds := fun _ _ => rfl
  have en : fEq .none .none = some (.val (.bool true)) := by rw [fEq_of okS_none okS_none]; simp [PyData.eqv]
  induction h with
  | int n i =>
    rw [eq]; unfold m__law_same
    simp -implicitDefEqProofs [runD]
  | bool n i =>
    rw [eq]; unfold m__law_same
    simp -implicitDefEqProofs [runD]
  | none n =>
    rw [eq]; unfold m__law_same
    simp -implicitDefEqProofs [runD, en]
  | @tup n ds ht hz ih =>
    have ih' := fun d hd => ih d hd (by omega)
    have c := comp n ds (.cl (.tuple ds)) (.inr rfl) ih' hz
    have al := fAll_map (fun _ : D => true) ds
    rw [eq]; unfold m__law_same
    simp -implicitDefEqProofs [runD, c, al]
  | @lst n ds ht hz ih =>
    have ih' := fun d hd => ih d hd (by omega)
    have c := comp n ds (.bo (.list ds)) (.inl rfl) ih' hz
    have al := fAll_map (fun _ : D => true) ds
    rw [eq]; unfold m__law_same
    simp -implicitDefEqProofs [runD, c, al]
end Lb
set_option maxHeartbeats 2000000
namespace Lb
open PySem PySem.Spec L2 Vx
def m_many_in_1 : M Bool :=
    (mT (m2 fGt (mB (f1 fLen) (aCons (mV 1) aNil)) (mC (.int 0))))
def m_many_in_2 : M Op :=
    (mB (f1 fAbs) (aCons (m2 fIx (mV 1) (m1 fNeg (mC (.int 1)))) aNil))
def m_many_in : M Fl :=
    (sRet (mB fMax (aCons (m2 fAdd (mLst (kCons (mC (.int 0)) kNil)) (mLc (iSeqM (mV 0)) (tName 1) m_many_in_1 m_many_in_2 [1])) aNil)))
def g_many_in : List D → FR := runD [.pl] 1 m_many_in
def m_is_part_1 : M Op :=
    (m2 fIn (mV 2) (mV 1))
def m_is_part : M Fl :=
    (sRet (mB (f1 fAll) (aCons (mLc (iSeqM (mV 0)) (tName 2) tYesM m_is_part_1 [2]) aNil)))
def g_is_part : List D → FR := runD [.pl, .pl] 1 m_is_part
def m_left_by_1 : M Op :=
    (m2 fIn (mV 4) (mV 3))
def m_left_by_2 : M Bool :=
    (mT (m2 fNotIn (m1 fNeg (mV 4)) (mV 1)))
def m_left_by_3 : M Op :=
    (mV 4)
def m_left_by_4 : M Fl :=
    (sIf (mNot (mT (mB (f1 fAny) (aCons (mLc (iSeqM (mV 1)) (tName 4) tYesM m_left_by_1 [4]) aNil)))) (sDrop (meApp 2 (mK (mB (f1 fTuple) (aCons (mLc (iSeqM (mV 3)) (tName 4) m_left_by_2 m_left_by_3 [4]) aNil))))) sNx)
def m_left_by : M Fl :=
    (sSeq (sSet 2 (mLst kNil))
    (sSeq (sFor (iSeqM (mV 0)) (tName 3) m_left_by_4)
    (sRet (mB (f1 fTuple) (aCons (mV 2) aNil)))))
def g_left_by : List D → FR := runD [.pl, .pl] 3 m_left_by
def m__law_atoms_of_1 : M Op :=
    (mB (f1 fAbs) (aCons (mV 3) aNil))
def m__law_atoms_of_2 : M Fl :=
    (sDrop (meExt 1 (mLc (iSeqM (mV 2)) (tName 3) tYesM m__law_atoms_of_1 [3])))
def m__law_atoms_of : M Fl :=
    (sSeq (sSet 1 (mLst kNil))
    (sSeq (sFor (iSeqM (mV 0)) (tName 2) m__law_atoms_of_2)
    (sRet (mV 1))))
def g__law_atoms_of : List D → FR := runD [.pl] 3 m__law_atoms_of
def m__law_joined_1 : M Fl :=
    (sSeq (sIf (mT (m2 fIn (m2 fSub (mC (.int 0)) (mV 2)) (mV 1))) (sRet (mC .none)) sNx)
    (sSet 1 (m2 fAdd (mV 1) (m2F fRep (mLst (kCons (mV 2) kNil)) (mB (f1 fInt) (aCons (m2 fNotIn (mV 2) (mV 1)) aNil))))))
def m__law_joined : M Fl :=
    (sSeq (sSet 1 (mLst kNil))
    (sSeq (sFor (iSeqM (m1 (fSrtK kAbs) (mV 0))) (tName 2) m__law_joined_1)
    (sRet (mB (f1 fTuple) (aCons (mV 1) aNil)))))
def g__law_joined : List D → FR := runD [.pl] 2 m__law_joined
def m__law_has_all_1 : M Op :=
    (m2 fIn (mV 2) (mV 0))
def m__law_has_all : M Fl :=
    (sRet (mB (f1 fAll) (aCons (mLc (iSeqM (mV 1)) (tName 2) tYesM m__law_has_all_1 [2]) aNil)))
def g__law_has_all : List D → FR := runD [.pl, .pl] 1 m__law_has_all
def m__law_left_1 : M Bool :=
    (mT (m2 fNotIn (m2 fSub (mC (.int 0)) (mV 4)) (mV 1)))
def m__law_left_2 : M Op :=
    (mV 4)
def m__law_left_3 : M Op :=
    (mB (f1 fTuple) (aCons (mLc (iSeqM (mV 3)) (tName 4) m__law_left_1 m__law_left_2 [4]) aNil))
def m__law_left_4 : M Op :=
    (m2 fIn (mV 4) (mV 1))
def m__law_left_5 : M Bool :=
    (mNot (mT (mB (f1 fAny) (aCons (mLc (iSeqM (mV 3)) (tName 4) tYesM m__law_left_4 [4]) aNil))))
def m__law_left_6 : M Op :=
    (mV 3)
def m__law_left : M Fl :=
    (sSeq (sSet 2 (mLc (iSeqM (mV 0)) (tName 3) m__law_left_5 m__law_left_6 [3]))
    (sRet (mB (f1 fTuple) (aCons (mLc (iSeqM (mV 2)) (tName 3) tYesM m__law_left_3 [3]) aNil))))
def g__law_left : List D → FR := runD [.pl, .pl] 3 m__law_left
def m_joined_1 : M Op :=
    (m2 fEq (mB (f1 fAbs) (aCons (mV 2) aNil)) (mB (f1 fAbs) (aCons (mV 3) aNil)))
def m_joined_2 : M Op :=
    (mV 2)
def m_joined_3 : M Op :=
    (mC (.bool true))
def m_joined : M Fl :=
    (sSeq (sSet 1 (m1 (fSrtK kAbsP) (mDc (iSeqM (mV 0)) (tName 2) tYesM m_joined_2 m_joined_3 [2])))
    (sSeq (sIf (mT (mB (f1 fAny) (aCons (mLc (iFnK zp (kiCons (mV 1) (kiCons (mSl fSl (mV 1) (bAt (mC (.int 1))) bNo) kiNil))) (tTup (tsCons (tName 2) (tsCons (tName 3) tsNil))) tYesM m_joined_1 [2, 3]) aNil))) (sRet (mC .none)) sNx)
    (sRet (mB (f1 fTuple) (aCons (mV 1) aNil)))))
def g_joined : List D → FR := runD [.pl] 3 m_joined
def m__law_many : M Fl :=
    (sRet (mB fMax (aCons (m2 fAdd (mLst (kCons (mC (.int 0)) kNil)) (mCall g__law_atoms_of [.pl] (aCons (mV 0) aNil))) aNil)))
def g__law_many : List D → FR := runD [.pl] 0 m__law_many
def m__law_thin_1 : M Bool :=
    (mAnd (mTr (mCall g__law_has_all [.pl, .pl] (aCons (mV 3) (aCons (mV 6) aNil)))) (mT (m2 fNe (mV 6) (mV 3))))
def m__law_thin_2 : M Op :=
    (mV 6)
def m__law_thin_3 : M Bool :=
    (mTr (mCall g__law_has_all [.pl, .pl] (aCons (mV 3) (aCons (mV 6) aNil))))
def m__law_thin_4 : M Op :=
    (mV 6)
def m__law_thin_5 : M Fl :=
    (sSeq (sSet 4 (mLc (iSeqM (mSl fSl (mV 0) bNo (bAt (mV 2)))) (tName 6) m__law_thin_3 m__law_thin_4 [6]))
    (sSeq (sSet 5 (mLc (iSeqM (mSl fSl (mV 0) (bAt (m2 fAdd (mV 2) (mC (.int 1)))) bNo)) (tName 6) m__law_thin_1 m__law_thin_2 [6]))
    (sSet 1 (m2 fAdd (mV 1) (m2F fRep (mLst (kCons (mV 3) kNil)) (mB (f1 fInt) (aCons (m2 fEq (m2 fAdd (mB (f1 fLen) (aCons (mV 4) aNil)) (mB (f1 fLen) (aCons (mV 5) aNil))) (mC (.int 0))) aNil)))))))
def m__law_thin : M Fl :=
    (sSeq (sSet 1 (mLst kNil))
    (sSeq (sFor (iFnK enm (kiCons (mV 0) kiNil)) (tTup (tsCons (tName 2) (tsCons (tName 3) tsNil))) m__law_thin_5)
    (sRet (mB (f1 fTuple) (aCons (mV 1) aNil)))))
def g__law_thin : List D → FR := runD [.pl] 6 m__law_thin
def m_is_clause_1 : M Op :=
    (m2 fLt (mB (f1 fAbs) (aCons (mV 1) aNil)) (mB (f1 fAbs) (aCons (mV 2) aNil)))
def m_is_clause_2 : M Op :=
    (mCall g_is_within [.pl, .pl, .pl] (aCons (mV 1) (aCons (m1 fNeg (mC (.int 12))) (aCons (mC (.int 12)) aNil))))
def m_is_clause : M Fl :=
    (sSeq (sIf (mOr (mNot (mT (m1 (fIsi ["tuple"]) (mV 0)))) (mNot (mT (mB (f1 fAll) (aCons (mLc (iSeqM (mV 0)) (tName 1) tYesM m_is_clause_2 [1]) aNil))))) (sRet (mC (.bool false))) sNx)
    (sSeq (sIf (mT (m2 fIn (mC (.int 0)) (mV 0))) (sRet (mC (.bool false))) sNx)
    (sRet (mB (f1 fAll) (aCons (mLc (iFnK zp (kiCons (mV 0) (kiCons (mSl fSl (mV 0) (bAt (mC (.int 1))) bNo) kiNil))) (tTup (tsCons (tName 1) (tsCons (tName 2) tsNil))) tYesM m_is_clause_1 [1, 2]) aNil)))))
def g_is_clause : List D → FR := runD [.pl] 2 m_is_clause
def m_is_names_1 : M Op :=
    (mB (f1 fAbs) (aCons (mV 2) aNil))
def m_is_names_2 : M Op :=
    (mC (.bool true))
def m_is_names_3 : M Op :=
    (mAndV (mT (mCall g_is_within [.pl, .pl, .pl] (aCons (mV 2) (aCons (m1 fNeg (mC (.int 12))) (aCons (mC (.int 12)) aNil))))) (m2 fNe (mV 2) (mC (.int 0))))
def m_is_names : M Fl :=
    (sSeq (sIf (mOr (mNot (mT (m1 (fIsi ["tuple"]) (mV 0)))) (mT (m2 fNe (mB (f1 fLen) (aCons (mV 0) aNil)) (mV 1)))) (sRet (mC (.bool false))) sNx)
    (sSeq (sIf (mNot (mT (mB (f1 fAll) (aCons (mLc (iSeqM (mV 0)) (tName 2) tYesM m_is_names_3 [2]) aNil)))) (sRet (mC (.bool false))) sNx)
    (sRet (m2 fEq (mB (f1 fLen) (aCons (mDc (iSeqM (mV 0)) (tName 2) tYesM m_is_names_1 m_is_names_2 [2]) aNil)) (mV 1)))))
def g_is_names : List D → FR := runD [.pl, .pl] 1 m_is_names
def m__law_models_1 : M Op :=
    (mCall g__law_breaks [.pl, .pl] (aCons (mV 2) (aCons (mV 1) aNil)))
def m__law_models_2 : M Bool :=
    (mNot (mT (mB (f1 fAny) (aCons (mLc (iSeqM (mV 0)) (tName 2) tYesM m__law_models_1 [2]) aNil))))
def m__law_models_3 : M Op :=
    (mV 1)
def m__law_models : M Fl :=
    (sRet (mLc (iSeqM (mCall g__law_worlds [.pl] (aCons (mCall g__law_many [.pl] (aCons (mV 0) aNil)) aNil))) (tName 1) m__law_models_2 m__law_models_3 [1]))
def g__law_models : List D → FR := runD [.pl] 2 m__law_models
def m_is_clauses_1 : M Op :=
    (mCall g_is_clause [.pl] (aCons (mV 1) aNil))
def m_is_clauses : M Fl :=
    (sSeq (sIf (mOr (mNot (mT (m1 (fIsi ["tuple"]) (mV 0)))) (mT (m2 fGt (mB (f1 fLen) (aCons (mV 0) aNil)) (mC (.int 80))))) (sRet (mC (.bool false))) sNx)
    (sRet (mB (f1 fAll) (aCons (mLc (iSeqM (mV 0)) (tName 1) tYesM m_is_clauses_1 [1]) aNil))))
def g_is_clauses : List D → FR := runD [.pl] 1 m_is_clauses
def m_is_lot : M Fl :=
    (sRet (mCall g_is_clause [.pl] (aCons (mV 0) aNil)))
def g_is_lot : List D → FR := runD [.pl] 0 m_is_lot
def m_check_clauses : M Fl :=
    (sIf (mNot (mTr (mCall g_is_clauses [.pl] (aCons (mV 0) aNil)))) sNo sNx)
def g_check_clauses : List D → FR := runD [.pl] 0 m_check_clauses
def m_check_lot : M Fl :=
    (sIf (mNot (mTr (mCall g_is_lot [.pl] (aCons (mV 0) aNil)))) sNo sNx)
def g_check_lot : List D → FR := runD [.pl] 0 m_check_lot
def m_models_of_1 : M Bool :=
    (mT (m2 fIs (mCall g_first_broken [.pl, .pl] (aCons (mV 0) (aCons (mV 4) aNil))) (mC .none)))
def m_models_of_2 : M Op :=
    (mV 4)
def m_models_of_3 : M Op :=
    (mCall g_bits_of [.pl, .pl] (aCons (mV 3) (aCons (mV 1) aNil)))
def m_models_of : M Fl :=
    (sSeq (sDrop (mCall g_check_clauses [.pl] (aCons (mV 0) aNil)))
    (sSeq (sSet 1 (mCall g_many_in [.pl] (aCons (mV 0) aNil)))
    (sSeq (sIf (mT (m2 fGt (mV 1) (mC (.int 10)))) sNo sNx)
    (sSeq (sSet 2 (mLc (iFn rng1 (aCons (mCall g_two_to [.pl] (aCons (mV 1) aNil)) aNil)) (tName 3) tYesM m_models_of_3 [3]))
    (sRet (mLc (iSeqM (mV 2)) (tName 4) m_models_of_1 m_models_of_2 [4]))))))
def g_models_of : List D → FR := runD [.pl] 4 m_models_of
def m_thinned_1 : M Op :=
    (mAndV (mT (mCall g_is_part [.pl, .pl] (aCons (mV 5) (aCons (mV 3) aNil)))) (mOrV (mT (m2 fNe (mV 5) (mV 3))) (m2 fLt (mV 4) (mV 2))))
def m_thinned_2 : M Fl :=
    (sIf (mNot (mT (mB (f1 fAny) (aCons (mLc (iFnK enm (kiCons (mV 0) kiNil)) (tTup (tsCons (tName 4) (tsCons (tName 5) tsNil))) tYesM m_thinned_1 [4, 5]) aNil)))) (sDrop (meApp 1 (mK (mV 3)))) sNx)
def m_thinned : M Fl :=
    (sSeq (sDrop (mCall g_check_clauses [.pl] (aCons (mV 0) aNil)))
    (sSeq (sSet 1 (mLst kNil))
    (sSeq (sFor (iFnK enm (kiCons (mV 0) kiNil)) (tTup (tsCons (tName 2) (tsCons (tName 3) tsNil))) m_thinned_2)
    (sRet (mB (f1 fTuple) (aCons (mV 1) aNil))))))
def g_thinned : List D → FR := runD [.pl] 5 m_thinned
def m_given_lot : M Fl :=
    (sSeq (sDrop (mCall g_check_clauses [.pl] (aCons (mV 0) aNil)))
    (sSeq (sDrop (mCall g_check_lot [.pl] (aCons (mV 1) aNil)))
    (sRet (mCall g_left_by [.pl, .pl] (aCons (mV 0) (aCons (mV 1) aNil))))))
def g_given_lot : List D → FR := runD [.pl, .pl] 0 m_given_lot
def m_turned_atoms_1 : M Op :=
    (mIf (mT (m2 fGt (mV 4) (mC (.int 0)))) (m2 fIx (mV 1) (m2 fSub (mV 4) (mC (.int 1)))) (m1 fNeg (m2 fIx (mV 1) (m2 fSub (m1 fNeg (mV 4)) (mC (.int 1))))))
def m_turned_atoms_2 : M Fl :=
    (sDrop (meApp 2 (mK (mCall g_joined [.pl] (aCons (mLc (iSeqM (mV 3)) (tName 4) tYesM m_turned_atoms_1 [4]) aNil)))))
def m_turned_atoms : M Fl :=
    (sSeq (sDrop (mCall g_check_clauses [.pl] (aCons (mV 0) aNil)))
    (sSeq (sIf (mNot (mTr (mCall g_is_names [.pl, .pl] (aCons (mV 1) (aCons (mCall g_many_in [.pl] (aCons (mV 0) aNil)) aNil))))) sNo sNx)
    (sSeq (sSet 2 (mLst kNil))
    (sSeq (sFor (iSeqM (mV 0)) (tName 3) m_turned_atoms_2)
    (sRet (mB (f1 fTuple) (aCons (mV 2) aNil)))))))
def g_turned_atoms : List D → FR := runD [.pl, .pl] 3 m_turned_atoms
def clB (c : List Int) : Bool := c.all (fun x => decide (-12 ≤ x) && decide (x ≤ 12)) && !decide (0 ∈ c) && (c.zip c.tail).all fun q => decide (absI q.1 < absI q.2)
theorem neg12 : fNeg (.int 12) = some (.val (.int (-12))) := rfl
theorem is_clause_eq {c : List Int} (hz : c.length ≤ sizeLine) : g_is_clause [encI c] = .ok false (.bool (clB c)) [] := by
  have h1 : mLc (iSeqM (mV 0)) (tName 1) tYesM m_is_clause_2 [1] [.cl (encI c), .un, .un] = .ok (.fr (.list (c.map fun x => .bool (decide (-12 ≤ x) && decide (x ≤ 12))))) [.cl (encI c), .un, .un] :=
    mLc_encM .int _ (by simp -implicitDefEqProofs) rfl hz fun x _ => by simp -implicitDefEqProofs [m_is_clause_2, is_within]
  have e2 : zipD (c.map .int) (cutD (c.map .int) (some 1) none) = (c.zip c.tail).map fun q => .tuple [.int q.1, .int q.2] := by
    rw [cut_1, ← List.map_drop, zip_enc, List.drop_one]
  have h2 : mLc (iFnK zp (kiCons (mV 0) (kiCons (mSl fSl (mV 0) (bAt (mC (.int 1))) bNo) kiNil))) (Vx.tTup (tsCons (tName 1) (tsCons (tName 2) tsNil))) tYesM m_is_clause_1 [1, 2] [.cl (encI c), .un, .un] = .ok (.fr (.list ((c.zip c.tail).map fun q => .bool (decide (absI q.1 < absI q.2))))) [.cl (encI c), .un, .un] :=
    mLc_enc2M .int .int _ (by simp -implicitDefEqProofs [e2]) (by decide) rfl rfl (by rw [List.length_zip]; omega) fun q _ => by
      simp -implicitDefEqProofs [m_is_clause_1]
  have a1 := fAll_map (fun x : Int => decide (-12 ≤ x) && decide (x ≤ 12)) c
  have a2 := fAll_map (fun q : Int × Int => decide (absI q.1 < absI q.2)) (c.zip c.tail)
  have i1 := fIn_I 0 c
  unfold clB
  generalize (c.all fun x => decide (-12 ≤ x) && decide (x ≤ 12)) = b1 at a1
  generalize ((c.zip c.tail).all fun q => decide (absI q.1 < absI q.2)) = b3 at a2
  cases b1
  · simp -implicitDefEqProofs [g_is_clause, runD, m_is_clause, h1, a1]
  · by_cases h0 : 0 ∈ c
    · simp -implicitDefEqProofs [g_is_clause, runD, m_is_clause, h1, a1, i1, h0]
    · simp -implicitDefEqProofs [g_is_clause, runD, m_is_clause, h1, h2, a1, a2, i1, h0]
/-- clauses -/
abbrev encC (cs : List (List Int)) : D := .tuple (cs.map encI)
theorem is_clauses_eq {cs : List (List Int)} (hz : cs.length ≤ 80) (hc : ∀ c ∈ cs, c.length ≤ sizeLine) : g_is_clauses [encC cs] = .ok false (.bool (cs.all clB)) [] := by
  have hz2 : cs.length ≤ sizeLine := Nat.le_trans hz (by decide)
  have h1 : mLc (iSeqM (mV 0)) (tName 1) tYesM m_is_clauses_1 [1] [.cl (encC cs), .un] = .ok (.fr (.list (cs.map fun c => .bool (clB c)))) [.cl (encC cs), .un] :=
    mLc_encM encI _ (by simp -implicitDefEqProofs) rfl hz2 fun c hcm => by simp -implicitDefEqProofs [m_is_clauses_1, is_clause_eq (hc c hcm)]
  have a1 := fAll_map clB cs
  have hn : ¬ (80 : Int) < cs.length := by omega
  simp -implicitDefEqProofs [g_is_clauses, runD, m_is_clauses, h1, a1, hn]
theorem check_clauses_ok {cs : List (List Int)} (hz : cs.length ≤ 80) (hc : ∀ c ∈ cs, c.length ≤ sizeLine) (h : cs.all clB = true) : g_check_clauses [encC cs] = .ok false .none [] := by
  simp -implicitDefEqProofs [g_check_clauses, runD, m_check_clauses, is_clauses_eq hz hc, h, truD]
/-- a good clause -/
structure ClOk (c : List Int) : Prop where
  atoms : ∀ x ∈ c, -12 ≤ x ∧ x ≤ 12 ∧ x ≠ 0
  up : c.Pairwise fun a b => absI a < absI b
theorem zip_tail_up : ∀ {c : List Int}, c.Pairwise (fun a b => absI a < absI b) → (c.zip c.tail).all (fun q => decide (absI q.1 < absI q.2)) = true
  | [], _ => rfl
  | [_], _ => rfl
  | a :: b :: c, h => by
    obtain ⟨h1, h2⟩ := List.pairwise_cons.mp h
    have ih := zip_tail_up h2
    show (decide (absI a < absI b) && ((b :: c).zip c).all _) = true
    rw [decide_eq_true (h1 b List.mem_cons_self)]
    exact ih
theorem ClOk.clB {c : List Int} (h : ClOk c) : Lb.clB c = true := by
  unfold Lb.clB
  rw [zip_tail_up h.up, Bool.and_true, Bool.and_eq_true]
  refine ⟨List.all_eq_true.mpr fun x hx => ?_, ?_⟩
  · obtain ⟨h1, h2, _⟩ := h.atoms x hx
    simp [h1, h2]
  · have : 0 ∉ c := fun z => (h.atoms 0 z).2.2 rfl
    simp [this]
theorem up_len : ∀ {c : List Int} (k : Int), (∀ x ∈ c, k < absI x ∧ absI x ≤ 12) → c.Pairwise (fun a b => absI a < absI b) → k ≤ 12 → (c.length : Int) ≤ 12 - k
  | [], k, _, _, hk => by simp; omega
  | a :: c, k, h, p, hk => by
    obtain ⟨h1, h2⟩ := List.pairwise_cons.mp p
    obtain ⟨h3, h4⟩ := h a List.mem_cons_self
    have := up_len (c := c) (absI a) (fun x hx => ⟨h1 x hx, (h x (List.mem_cons_of_mem _ hx)).2⟩) h2 h4
    rw [List.length_cons]
    omega
theorem ClOk.len {c : List Int} (h : ClOk c) : c.length ≤ 12 := by
  have := up_len (c := c) 0 (fun x hx => by
    obtain ⟨h1, h2, h3⟩ := h.atoms x hx
    exact ⟨absI_pos h3, by unfold absI; split <;> omega⟩) h.up (by decide)
  omega
theorem ClOk.size {c : List Int} (h : ClOk c) : c.length ≤ sizeLine := Nat.le_trans h.len (by decide)
theorem check_ok {cs : List (List Int)} (hz : cs.length ≤ 80) (h : ∀ c ∈ cs, ClOk c) : g_check_clauses [encC cs] = .ok false .none [] :=
  check_clauses_ok hz (fun c hc => (h c hc).size) (List.all_eq_true.mpr fun c hc => (h c hc).clB)
theorem check_lot_ok {c : List Int} (h : ClOk c) : g_check_lot [encI c] = .ok false .none [] := by
  simp -implicitDefEqProofs [g_check_lot, runD, m_check_lot, g_is_lot, m_is_lot, is_clause_eq h.size, h.clB, truD]
end Lb
set_option maxHeartbeats 2000000
namespace Lb
open PySem PySem.Spec L2 Vx
def litB (w : List Int) (x : Int) : Bool := decide (w.getD (absI x - 1).toNat 0 = if 0 < x then 1 else 0)
def holdsB (c w : List Int) : Bool := c.any (litB w)
/-- the clause's atoms are in the world -/
def Fits (c w : List Int) : Prop := ∀ x ∈ c, x ≠ 0 ∧ absI x ≤ w.length
theorem ix_lit {w : List Int} {x : Int} (h : x ≠ 0) (h2 : absI x ≤ w.length) : fIx (encI w) (.int (absI x - 1)) = some (.val (.int (w.getD (absI x - 1).toNat 0))) := by
  have hp := absI_pos h
  rw [fIx_tup, atI_pos _ (by omega), List.getElem?_map, List.getD_eq_getElem?_getD, List.getElem?_eq_getElem (by omega)]
  rfl
theorem holds_in {c w : List Int} (hf : Fits c w) (hz : c.length ≤ sizeLine) : g_holds_in [encI c, encI w] = .ok false (.bool (holdsB c w)) [] := by
  have h1 : mLc (iSeqM (mV 0)) (tName 2) tYesM m_holds_in_1 [2] [.cl (encI c), .cl (encI w), .un] = .ok (.fr (.list (c.map fun x => .bool (litB w x)))) [.cl (encI c), .cl (encI w), .un] :=
    mLc_encM .int _ (by simp -implicitDefEqProofs) rfl hz fun x hx => by
      have e := ix_lit (hf x hx).1 (hf x hx).2
      simp -implicitDefEqProofs [m_holds_in_1, e, litB]
  have a1 := fAny_map (litB w) c
  simp -implicitDefEqProofs [g_holds_in, runD, m_holds_in, h1, a1, holdsB]
theorem breaks {c w : List Int} (hf : Fits c w) (hz : c.length ≤ sizeLine) : g__law_breaks [encI c, encI w] = .ok false (.bool (!holdsB c w)) [] := by
  have h1 : mLc (iSeqM (mV 0)) (tName 2) tYesM m__law_breaks_1 [2] [.cl (encI c), .cl (encI w), .un] = .ok (.fr (.list (c.map fun x => .bool (litB w x)))) [.cl (encI c), .cl (encI w), .un] :=
    mLc_encM .int _ (by simp -implicitDefEqProofs) rfl hz fun x hx => by
      have e := ix_lit (hf x hx).1 (hf x hx).2
      simp -implicitDefEqProofs [m__law_breaks_1, e, litB]
  have a1 := fAny_map (litB w) c
  simp -implicitDefEqProofs [g__law_breaks, runD, m__law_breaks, h1, a1, holdsB]
/-- the first clause that is broken -/
theorem first_broken {cs : List (List Int)} {w : List Int} (hf : ∀ c ∈ cs, Fits c w) (hz : ∀ c ∈ cs, c.length ≤ sizeLine) :
    ∃ d, g_first_broken [encC cs, encI w] = .ok false d [] ∧ isNo d = cs.all fun c => holdsB c w := by
  have key : ∀ (l : List (List Int)) (k : Nat) (s1 s2 : Sl), (∀ c ∈ l, Fits c w) → (∀ c ∈ l, c.length ≤ sizeLine) → free (some s1) = true → free (some s2) = true →
      (l.all (fun c => holdsB c w) = true ∧ ∃ s1' s2', forI (Vx.tTup (tsCons (tName 2) (tsCons (tName 3) tsNil))) m_first_broken_1 (enumD k (l.map encI)) [.cl (encC cs), .cl (encI w), s1, s2] = .ok .nx [.cl (encC cs), .cl (encI w), s1', s2']) ∨
      (l.all (fun c => holdsB c w) = false ∧ ∃ i s1' s2', forI (Vx.tTup (tsCons (tName 2) (tsCons (tName 3) tsNil))) m_first_broken_1 (enumD k (l.map encI)) [.cl (encC cs), .cl (encI w), s1, s2] = .ok (.rt (.val (.int i))) [.cl (encC cs), .cl (encI w), s1', s2']) := by
    intro l
    induction l with
    | nil => exact fun k s1 s2 _ _ _ _ => .inl ⟨rfl, s1, s2, rfl⟩
    | cons c l ih =>
      intro k s1 s2 h1 h2 f1 f2
      have hh := holds_in (h1 c List.mem_cons_self) (h2 c List.mem_cons_self)
      have ih := ih (k + 1) (.cl (.int (k : Nat))) (.cl (encI c)) (fun x hx => h1 x (List.mem_cons_of_mem _ hx)) (fun x hx => h2 x (List.mem_cons_of_mem _ hx)) rfl rfl
      have et : Vx.tTup (tsCons (tName 2) (tsCons (tName 3) tsNil)) (.tuple [.int (k : Nat), encI c]) [.cl (encC cs), .cl (encI w), s1, s2] = some [.cl (encC cs), .cl (encI w), .cl (.int (k : Nat)), .cl (encI c)] := by
        simp -implicitDefEqProofs [f1, f2]
      have ee : enumD k ((c :: l).map encI) = .tuple [.int (k : Nat), encI c] :: enumD (k + 1) (l.map encI) := rfl
      rw [ee]
      unfold forI
      rw [et]
      dsimp only
      cases hb : holdsB c w with
      | true =>
        rw [hb] at hh
        have eb : m_first_broken_1 [.cl (encC cs), .cl (encI w), .cl (.int (k : Nat)), .cl (encI c)] = .ok .nx [.cl (encC cs), .cl (encI w), .cl (.int (k : Nat)), .cl (encI c)] := by
          simp -implicitDefEqProofs [m_first_broken_1, hh, truD]
        rw [eb, List.all_cons, hb, Bool.true_and]
        exact ih
      | false =>
        rw [hb] at hh
        have eb : m_first_broken_1 [.cl (encC cs), .cl (encI w), .cl (.int (k : Nat)), .cl (encI c)] = .ok (.rt (.val (.int (k : Nat)))) [.cl (encC cs), .cl (encI w), .cl (.int (k : Nat)), .cl (encI c)] := by
          simp -implicitDefEqProofs [m_first_broken_1, hh, truD]
        rw [eb, List.all_cons, hb, Bool.false_and]
        exact .inr ⟨rfl, _, _, _, rfl⟩
  rcases key cs 0 .un .un hf hz rfl rfl with ⟨h1, s1, s2, h2⟩ | ⟨h1, i, s1, s2, h2⟩
  · exact ⟨.none, by simp -implicitDefEqProofs [g_first_broken, runD, m_first_broken, h2], h1.symm⟩
  · exact ⟨.int i, by simp -implicitDefEqProofs [g_first_broken, runD, m_first_broken, h2], h1.symm⟩
def lowB : Nat → Nat → List Int
  | 0, _ => []
  | m + 1, n => ((n % 2 : Nat) : Int) :: lowB m (n / 2)
def bitsB (m n : Nat) : List Int := (lowB m n).reverse
theorem lowB_snoc : ∀ (k n : Nat), lowB (k + 1) n = lowB k n ++ [((n / 2 ^ k % 2 : Nat) : Int)]
  | 0, n => by simp [lowB]
  | k + 1, n => by
    show ((n % 2 : Nat) : Int) :: lowB (k + 1) (n / 2) = _
    rw [lowB_snoc k (n / 2)]
    show _ = ((n % 2 : Nat) : Int) :: (lowB k (n / 2) ++ [((n / 2 ^ (k + 1) % 2 : Nat) : Int)])
    rw [Nat.div_div_eq_div_mul, ← Nat.pow_succ']
def worldsL : Nat → List (List Int)
  | 0 => [[]]
  | m + 1 => (worldsL m).flatMap fun w => [w ++ [0], w ++ [1]]
theorem bits_worlds : ∀ m : Nat, (List.range (2 ^ m)).map (bitsB m) = worldsL m
  | 0 => rfl
  | m + 1 => by
    have key : ∀ k, (List.range (2 * k)).map (bitsB (m + 1)) = ((List.range k).map (bitsB m)).flatMap fun w => [w ++ [0], w ++ [1]] := by
      intro k
      induction k with
      | zero => rfl
      | succ k ih =>
        have e0 : bitsB (m + 1) (2 * k) = bitsB m k ++ [0] := by
          unfold bitsB
          show (((2 * k % 2 : Nat) : Int) :: lowB m (2 * k / 2)).reverse = _
          rw [show 2 * k % 2 = 0 by omega, show 2 * k / 2 = k by omega, List.reverse_cons]; rfl
        have e1 : bitsB (m + 1) (2 * k + 1) = bitsB m k ++ [1] := by
          unfold bitsB
          show ((((2 * k + 1) % 2 : Nat) : Int) :: lowB m ((2 * k + 1) / 2)).reverse = _
          rw [show (2 * k + 1) % 2 = 1 by omega, show (2 * k + 1) / 2 = k by omega, List.reverse_cons]; rfl
        rw [show 2 * (k + 1) = 2 * k + 1 + 1 by omega, List.range_succ, List.range_succ, List.range_succ, List.map_append, List.map_append, List.map_append, ih, List.flatMap_append]
        simp [e0, e1]
    rw [show 2 ^ (m + 1) = 2 * 2 ^ m by rw [Nat.pow_succ]; omega, key, bits_worlds m]
    rfl
theorem worlds_len : ∀ (m : Nat) (w : List Int), w ∈ worldsL m → w.length = m
  | 0, w, h => by
    have : w = [] := by simpa [worldsL] using h
    rw [this]; rfl
  | m + 1, w, h => by
    obtain ⟨v, hv, hw⟩ := List.mem_flatMap.mp h
    have := worlds_len m v hv
    simp only [List.mem_cons, List.not_mem_nil, or_false] at hw
    rcases hw with e | e <;> (subst e; simp [this])
theorem worlds_count : ∀ m : Nat, (worldsL m).length = 2 ^ m
  | m => by rw [← bits_worlds, List.length_map, List.length_range]
end Lb
set_option maxHeartbeats 2000000
namespace Lb
open PySem PySem.Spec L2 Vx
theorem rngD_get (n i : Nat) : (rngD 0 n)[i]? = if i < n then some (.int (i : Nat)) else none := by
  unfold rngD
  rw [List.getElem?_map]
  by_cases h : i < n
  · rw [if_pos h, List.getElem?_range h]; simp
  · rw [if_neg h, List.getElem?_eq_none (by simpa using h)]; rfl
theorem rngD_len (lo : Int) (n : Nat) : (rngD lo n).length = n := by simp [rngD]
theorem bits_of (n m : Nat) (hm : m < 1000) : g_bits_of [.int (n : Nat), .int (m : Nat)] = .ok false (encI (bitsB m n)) [] := by
  let P : Nat → Ev → Prop := fun i ρ => ∃ s, ρ = [.cl (.int ((n / 2 ^ i : Nat) : Int)), .cl (.int (m : Nat)), .ow (.list ((lowB i n).map .int)), s] ∧ free (some s) = true
  have len : ∀ i k, (lowB i k).length = i := fun i => by
    induction i with
    | zero => exact fun _ => rfl
    | succ i ih => exact fun k => by simp [lowB, ih]
  obtain ⟨ρ', e, s, eρ, _⟩ := forI_inv (t := tName 3) (b := m_bits_of_1) (P := P) (rngD 0 m) 0 [.cl (.int (n : Nat)), .cl (.int (m : Nat)), .ow (.list []), .un] ⟨.un, by simp [lowB], rfl⟩ fun i d ρ hd hp => by
    obtain ⟨s, eρ, hs⟩ := hp
    rw [Nat.zero_add] at eρ ⊢
    subst eρ
    have hi : i < m := by
      rw [rngD_get] at hd
      by_cases c : i < m
      · exact c
      · rw [if_neg c] at hd; cases hd
    have h1 : (lowB i n).length < sizeLine := by rw [len]; exact Nat.lt_of_lt_of_le (show i < 1000 by omega) (by decide)
    have q1 := fMod_int (i := ((n / 2 ^ i : Nat) : Int)) (j := 2) (by decide)
    have q2 := fDiv_int (i := ((n / 2 ^ i : Nat) : Int)) (j := 2) (okD (by decide) (by decide))
    refine ⟨[.cl (.int ((n / 2 ^ i : Nat) : Int)), .cl (.int (m : Nat)), .ow (.list ((lowB i n).map .int)), .cl d], [.cl (.int ((n / 2 ^ (i + 1) : Nat) : Int)), .cl (.int (m : Nat)), .ow (.list ((lowB (i + 1) n).map .int)), .cl d], by simp [hs], .inl ?_, _, rfl, rfl⟩
    rw [lowB_snoc]
    have e1 : ((n / 2 ^ i : Nat) : Int) % 2 = ((n / 2 ^ i % 2 : Nat) : Int) := by omega
    have e2 : ((n / 2 ^ i : Nat) : Int) / 2 = ((n / 2 ^ (i + 1) : Nat) : Int) := by rw [Nat.pow_succ, ← Nat.div_div_eq_div_mul]; omega
    rw [e1] at q1
    rw [e2] at q2
    generalize n / 2 ^ i = a at *
    generalize n / 2 ^ (i + 1) = b at *
    simp -implicitDefEqProofs [m_bits_of_1, h1, q1, q2]
  rw [Nat.zero_add, rngD_len] at eρ
  subst eρ
  have hr := rng1_of (j := (m : Int)) (by omega) (by omega)
  rw [show ((m : Int)).toNat = m from rfl] at hr
  simp -implicitDefEqProofs [g_bits_of, runD, m_bits_of, hr, e, bitsB]
theorem two_to_nat (m : Nat) (hm : m ≤ 1000) : g_two_to [.int (m : Nat)] = .ok false (.int ((2 ^ m : Nat) : Int)) [] := by
  have h : okPow 1 (m : Int) = true := by
    simp only [okPow, Bool.and_eq_true, decide_eq_true_eq]
    refine ⟨⟨by omega, by omega⟩, by decide⟩
  rw [two_to _ h]
  simp
/-- the law's own worlds -/
theorem worlds {m : Nat} (hm : m ≤ 12) : ∃ b, g__law_worlds [.int (m : Nat)] = .ok b (.list ((worldsL m).map encI)) [] := by
  -- one lap
  have lap : ∀ (ws : List (List Int)) (s1 s2 : Sl) (k : Nat), ws.length ≤ 4096 → (∀ w ∈ ws, w.length ≤ 12) → free (some s2) = true → ∃ s', forI (tName 4) m__law_worlds_1 (ws.map encI) [.cl (.int (m : Nat)), s1, .cl (.int (k : Nat)), .ow (.list []), s2] = .ok .nx [.cl (.int (m : Nat)), s1, .cl (.int (k : Nat)), .ow (.list ((ws.flatMap fun w => [w ++ [0], w ++ [1]]).map encI)), s'] ∧ free (some s') = true := by
    intro ws s1 s2 k hl hw h2
    let P : Nat → Ev → Prop := fun i ρ => ∃ s, ρ = [.cl (.int (m : Nat)), s1, .cl (.int (k : Nat)), .ow (.list (((ws.take i).flatMap fun w => [w ++ [0], w ++ [1]]).map encI)), s] ∧ free (some s) = true
    obtain ⟨ρ', e, s, eρ, hs⟩ := forI_inv (t := tName 4) (b := m__law_worlds_1) (P := P) (ws.map encI) 0 [.cl (.int (m : Nat)), s1, .cl (.int (k : Nat)), .ow (.list []), s2] ⟨s2, by simp, h2⟩ fun i d ρ hd hp => by
      obtain ⟨s, eρ, hs⟩ := hp
      rw [Nat.zero_add] at eρ ⊢
      subst eρ
      rw [List.getElem?_map] at hd
      cases hwi : ws[i]? with
      | none => rw [hwi] at hd; cases hd
      | some w =>
        rw [hwi] at hd
        have hd : encI w = d := Option.some.inj hd
        subst hd
        have hi : i < ws.length := (List.getElem?_eq_some_iff.mp hwi).1
        have ht : ws.take (i + 1) = ws.take i ++ [w] := by rw [List.take_add_one, hwi]; rfl
        have hwl := hw w (List.mem_of_getElem? hwi)
        have fl : ∀ l : List (List Int), (l.flatMap fun w => [w ++ [0], w ++ [1]]).length = 2 * l.length := fun l => by
          induction l with
          | nil => rfl
          | cons a l ih => rw [List.flatMap_cons, List.length_append, ih, List.length_cons]; simp; omega
        have z1 : w.length + 1 ≤ sizeLine := Nat.le_trans (show w.length + 1 ≤ 13 by omega) (by decide)
        have z2 : ((ws.take i).flatMap fun w => [w ++ [0], w ++ [1]]).length + 2 ≤ sizeLine := by
          rw [fl, List.length_take]
          exact Nat.le_trans (show _ ≤ 8194 by omega) (by decide)
        have z3 : (2 : Nat) ≤ sizeLine := by decide
        have z4 : (1 : Nat) ≤ sizeLine := by decide
        refine ⟨[.cl (.int (m : Nat)), s1, .cl (.int (k : Nat)), .ow (.list (((ws.take i).flatMap fun w => [w ++ [0], w ++ [1]]).map encI)), .cl (encI w)], [.cl (.int (m : Nat)), s1, .cl (.int (k : Nat)), .ow (.list (((ws.take (i + 1)).flatMap fun w => [w ++ [0], w ++ [1]]).map encI)), .cl (encI w)], by simp [hs], .inl ?_, _, rfl, rfl⟩
        rw [ht, List.flatMap_append, List.map_append]
        generalize ((ws.take i).flatMap fun w => [w ++ [0], w ++ [1]]) = acc at z2
        simp -implicitDefEqProofs [m__law_worlds_1, z1, z2, z3, z4]
    rw [Nat.zero_add, List.length_map, List.take_length] at eρ
    subst eρ
    exact ⟨s, e, hs⟩
  have wl : ∀ i, i ≤ 12 → (worldsL i).length ≤ 4096 := fun i hi => by
    rw [worlds_count]
    exact Nat.le_trans (Nat.pow_le_pow_right (by decide) hi) (by decide)
  let P : Nat → Ev → Prop := fun i ρ => ∃ s1 s2 s3 s4, ρ = [.cl (.int (m : Nat)), s1, s2, s3, s4] ∧ (s1 = .cl (.list ((worldsL i).map encI)) ∨ s1 = .ow (.list ((worldsL i).map encI))) ∧ free (some s2) = true ∧ free (some s3) = true ∧ free (some s4) = true
  obtain ⟨ρ', e, s1, s2, s3, s4, eρ, h1, _⟩ := forI_inv (t := tName 2) (b := m__law_worlds_2) (P := P) (rngD 0 m) 0 [.cl (.int (m : Nat)), .ow (.list [.tuple []]), .un, .un, .un] ⟨_, _, _, _, rfl, .inr rfl, rfl, rfl, rfl⟩ fun i d ρ hd hp => by
    obtain ⟨s1, s2, s3, s4, eρ, h1, h2, h3, h4⟩ := hp
    rw [Nat.zero_add] at h1 ⊢
    subst eρ
    rw [rngD_get] at hd
    by_cases c : i < m
    · rw [if_pos c] at hd
      have hd : (PyData.int (i : Nat)) = d := Option.some.inj hd
      subst hd
      obtain ⟨s', q1, q2⟩ := lap (worldsL i) (.cl (.list ((worldsL i).map encI))) s4 i (wl i (by omega)) (fun w hw => by rw [worlds_len i w hw]; omega) h4
      have z : (0 : Nat) ≤ sizeLine := Nat.zero_le _
      refine ⟨[.cl (.int (m : Nat)), s1, .cl (.int (i : Nat)), s3, s4], [.cl (.int (m : Nat)), .cl (.list ((worldsL (i + 1)).map encI)), .cl (.int (i : Nat)), .cl (.list ((worldsL (i + 1)).map encI)), s'], by simp [h2], .inl ?_, _, _, _, _, rfl, .inl rfl, rfl, rfl, q2⟩
      rcases h1 with h1 | h1 <;> subst h1
      · simp -implicitDefEqProofs [m__law_worlds_2, h3, q1, worldsL]
      · simp -implicitDefEqProofs [m__law_worlds_2, h3, q1, worldsL]
    · rw [if_neg c] at hd; cases hd
  rw [Nat.zero_add, rngD_len] at h1
  subst eρ
  have hr := rng1_of (j := (m : Int)) (by omega) (by omega)
  rw [show ((m : Int)).toNat = m from rfl] at hr
  have z : (1 : Nat) ≤ sizeLine := by decide
  rcases h1 with h1 | h1 <;> subst h1
  · exact ⟨false, by simp -implicitDefEqProofs [g__law_worlds, runD, m__law_worlds, hr, e, z]⟩
  · exact ⟨true, by simp -implicitDefEqProofs [g__law_worlds, runD, m__law_worlds, hr, e, z]⟩
def manyI (cs : List (List Int)) : Int := mxI 0 (cs.flatMap fun c => c.map absI)
theorem law_atoms {cs : List (List Int)} (h1 : cs.length ≤ 100) (h2 : ∀ c ∈ cs, c.length ≤ 100) : g__law_atoms_of [encC cs] = .ok true (.list ((cs.flatMap fun c => c.map absI).map .int)) [] := by
  let P : Nat → Ev → Prop := fun i ρ => ∃ s2 s3, ρ = [.cl (encC cs), .ow (.list (((cs.take i).flatMap fun c => c.map absI).map .int)), s2, s3] ∧ free (some s2) = true ∧ (s3 = .un)
  obtain ⟨ρ', e, s2, s3, eρ, _⟩ := forI_inv (t := tName 2) (b := m__law_atoms_of_2) (P := P) (cs.map encI) 0 [.cl (encC cs), .ow (.list []), .un, .un] ⟨.un, .un, by simp, rfl, rfl⟩ fun i d ρ hd hp => by
    obtain ⟨s2, s3, eρ, hs2, hs3⟩ := hp
    rw [Nat.zero_add] at eρ ⊢
    subst eρ hs3
    rw [List.getElem?_map] at hd
    cases hci : cs[i]? with
    | none => rw [hci] at hd; cases hd
    | some c =>
      rw [hci] at hd
      have hd : encI c = d := Option.some.inj hd
      subst hd
      have hi : i < cs.length := (List.getElem?_eq_some_iff.mp hci).1
      have hc := h2 c (List.mem_of_getElem? hci)
      have ht : cs.take (i + 1) = cs.take i ++ [c] := by rw [List.take_add_one, hci]; rfl
      have fl : ∀ l : List (List Int), (∀ c ∈ l, c.length ≤ 100) → (l.flatMap fun c => c.map absI).length ≤ 100 * l.length := fun l => by
        induction l with
        | nil => exact fun _ => by simp
        | cons a l ih =>
          intro h
          have h3 := ih fun c hc => h c (List.mem_cons_of_mem _ hc)
          have h4 := h a List.mem_cons_self
          rw [List.flatMap_cons, List.length_append, List.length_map, List.length_cons]
          omega
      have f3 := fl (cs.take i) fun c hc => h2 c (List.mem_of_mem_take hc)
      rw [List.length_take] at f3
      have z2 : ((cs.take i).flatMap fun c => c.map absI).length + c.length ≤ sizeLine := Nat.le_trans (show _ ≤ 10200 by omega) (by decide)
      generalize eacc : ((cs.take i).flatMap fun c => c.map absI) = acc at z2
      have h1 : mLc (iSeqM (mV 2)) (tName 3) tYesM m__law_atoms_of_1 [3] [.cl (encC cs), .ow (.list (acc.map .int)), .cl (encI c), .un] = .ok (.fr (.list (c.map fun x => .int (absI x)))) [.cl (encC cs), .ow (.list (acc.map .int)), .cl (encI c), .un] :=
        mLc_encM .int _ (by simp -implicitDefEqProofs) rfl (Nat.le_trans hc (by decide)) fun x _ => by simp -implicitDefEqProofs [m__law_atoms_of_1]
      refine ⟨[.cl (encC cs), .ow (.list (acc.map .int)), .cl (encI c), .un], [.cl (encC cs), .ow (.list ((acc ++ c.map absI).map .int)), .cl (encI c), .un], by simp [hs2], .inl ?_, .cl (encI c), .un, ?_, rfl, rfl⟩
      · simp -implicitDefEqProofs [m__law_atoms_of_2, h1, z2]
      · rw [ht, List.flatMap_append, eacc]; simp
  rw [Nat.zero_add, List.length_map, List.take_length] at eρ
  subst eρ
  simp -implicitDefEqProofs [g__law_atoms_of, runD, m__law_atoms_of, e]
theorem fMax_0 (l : List Int) : fMax [.list (.int 0 :: l.map .int)] = some (.val (.int (mxI 0 l))) := by
  have : intsD (.int 0 :: l.map .int) = some (0 :: l) := intsD_map (0 :: l)
  rw [fMax_1, lInts_list, this]; rfl
theorem atoms_len : ∀ {cs : List (List Int)}, (∀ c ∈ cs, c.length ≤ 100) → (cs.flatMap fun c => c.map absI).length ≤ 100 * cs.length
  | [], _ => by simp
  | a :: l, h => by
    have h3 := atoms_len (cs := l) fun c hc => h c (List.mem_cons_of_mem _ hc)
    have h4 := h a List.mem_cons_self
    rw [List.flatMap_cons, List.length_append, List.length_map, List.length_cons]
    omega
theorem law_many {cs : List (List Int)} (h1 : cs.length ≤ 100) (h2 : ∀ c ∈ cs, c.length ≤ 100) : g__law_many [encC cs] = .ok false (.int (manyI cs)) [] := by
  have e := law_atoms h1 h2
  have l := atoms_len h2
  unfold manyI
  generalize (cs.flatMap fun c => c.map absI) = as at *
  have z1 : (1 : Nat) ≤ sizeLine := by decide
  have z2 : 1 + as.length ≤ sizeLine := Nat.le_trans (show _ ≤ 10001 by omega) (by decide)
  simp -implicitDefEqProofs [g__law_many, runD, m__law_many, e, z1, z2, fMax_0, -fMax_1]
/-- the last literal is the greatest one -/
def lastI (c : List Int) : Int := absI (c.getLastD 0)
theorem many_in {cs : List (List Int)} (h1 : cs.length ≤ 100) (h2 : ∀ c ∈ cs, c.length ≤ 100) : g_many_in [encC cs] = .ok false (.int (mxI 0 ((cs.filter fun c => decide (0 < c.length)).map lastI))) [] := by
  have hz : cs.length ≤ sizeLine := Nat.le_trans h1 (by decide)
  have c1 : mLc (iSeqM (mV 0)) (tName 1) m_many_in_1 m_many_in_2 [1] [.cl (encC cs), .un] = .ok (.fr (.list ((cs.filter fun c => decide (0 < c.length)).map fun c => .int (lastI c)))) [.cl (encC cs), .un] :=
    mLc_encF encI _ _ (by simp -implicitDefEqProofs) rfl hz (fun c _ => by
      simp -implicitDefEqProofs [m_many_in_1]) fun c hc hp => by
      have hp := of_decide_eq_true hp
      have ei : atI (c.map PyData.int) (-1) = some (.int (c.getLastD 0)) := by
        unfold atI ixN
        rw [if_neg (by decide), List.length_map, if_pos (by omega)]
        show (c.map PyData.int)[(-1 + (c.length : Int)).toNat]? = _
        rw [show (-1 + (c.length : Int)).toNat = c.length - 1 by omega, List.getElem?_map, ← List.getLast?_eq_getElem?, List.getLastD_eq_getLast?]
        cases q : c.getLast? with
        | none => rw [List.getLast?_eq_none_iff] at q; subst q; simp at hp
        | some x => rfl
      simp -implicitDefEqProofs [m_many_in_2, ei, lastI]
  have fl : (cs.filter fun c => decide (0 < c.length)).length ≤ cs.length := List.length_filter_le _ _
  have z1 : (1 : Nat) ≤ sizeLine := by decide
  generalize (cs.filter fun c => decide (0 < c.length)) = fs at *
  have z2 : 1 + fs.length ≤ sizeLine := Nat.le_trans (show _ ≤ 101 by omega) (by decide)
  have m0 : fMax [.list (.int 0 :: fs.map fun c => .int (lastI c))] = some (.val (.int (mxI 0 (fs.map lastI)))) := by
    have := fMax_0 (fs.map lastI)
    rwa [List.map_map] at this
  simp -implicitDefEqProofs [g_many_in, runD, m_many_in, c1, z1, z2, m0, -fMax_1]
theorem mxI_le_iff : ∀ (l : List Int) (m k : Int), mxI m l ≤ k ↔ m ≤ k ∧ ∀ x ∈ l, x ≤ k := fun l m k => by
  obtain ⟨h1, h2⟩ := mxI_le l m
  refine ⟨fun h => ⟨Int.le_trans h1 h, fun x hx => Int.le_trans (h2 x hx) h⟩, fun ⟨q1, q2⟩ => ?_⟩
  rcases mxI_mem l m with e | e
  · rw [e]; exact q1
  · exact q2 _ e
/-- the last of an ascending clause is the greatest -/
theorem last_max {c : List Int} (h : c.Pairwise fun a b => absI a < absI b) (h0 : 0 < c.length) : (∀ x ∈ c, absI x ≤ lastI c) ∧ ∃ x ∈ c, absI x = lastI c := by
  induction c with
  | nil => simp at h0
  | cons a c ih =>
    obtain ⟨h1, h2⟩ := List.pairwise_cons.mp h
    cases c with
    | nil => exact ⟨fun x hx => by rw [List.mem_singleton.mp hx]; exact Int.le_refl _, a, List.mem_singleton.mpr rfl, rfl⟩
    | cons b c =>
      obtain ⟨q1, x, q2, q3⟩ := ih h2 (Nat.succ_pos _)
      have e : lastI (a :: b :: c) = lastI (b :: c) := by unfold lastI; rfl
      rw [e]
      refine ⟨fun y hy => ?_, x, List.mem_cons_of_mem _ q2, q3⟩
      rcases List.mem_cons.mp hy with z | z
      · subst z
        have := h1 b List.mem_cons_self
        have := q1 b List.mem_cons_self
        omega
      · exact q1 y z
theorem many_eq {cs : List (List Int)} (h : ∀ c ∈ cs, c.Pairwise fun a b => absI a < absI b) : mxI 0 ((cs.filter fun c => decide (0 < c.length)).map lastI) = manyI cs := by
  unfold manyI
  apply Int.le_antisymm
  · rw [mxI_le_iff]
    obtain ⟨g1, g2⟩ := mxI_le (cs.flatMap fun c => c.map absI) 0
    refine ⟨g1, fun x hx => ?_⟩
    obtain ⟨c, hc, e⟩ := List.mem_map.mp hx
    obtain ⟨hc1, hc2⟩ := List.mem_filter.mp hc
    obtain ⟨_, y, y1, y2⟩ := last_max (h c hc1) (of_decide_eq_true hc2)
    rw [← e, ← y2]
    exact g2 _ (List.mem_flatMap.mpr ⟨c, hc1, List.mem_map.mpr ⟨y, y1, rfl⟩⟩)
  · rw [mxI_le_iff]
    obtain ⟨g1, g2⟩ := mxI_le ((cs.filter fun c : List Int => decide (0 < c.length)).map lastI) 0
    refine ⟨g1, fun x hx => ?_⟩
    obtain ⟨c, hc, hx⟩ := List.mem_flatMap.mp hx
    obtain ⟨y, y1, e⟩ := List.mem_map.mp hx
    have h0 : 0 < c.length := List.length_pos_of_mem y1
    have := (last_max (h c hc) h0).1 y y1
    rw [← e]
    exact Int.le_trans this (g2 _ (List.mem_map.mpr ⟨c, List.mem_filter.mpr ⟨hc, decide_eq_true h0⟩, rfl⟩))
theorem many_le {cs : List (List Int)} {c : List Int} (hc : c ∈ cs) {x : Int} (hx : x ∈ c) : absI x ≤ manyI cs :=
  (mxI_le (cs.flatMap fun c => c.map absI) 0).2 _ (List.mem_flatMap.mpr ⟨c, hc, List.mem_map.mpr ⟨x, hx, rfl⟩⟩)
theorem many_nn (cs : List (List Int)) : 0 ≤ manyI cs := (mxI_le _ 0).1
theorem many_up {cs : List (List Int)} {k : Int} (h0 : 0 ≤ k) (h : ∀ c ∈ cs, ∀ x ∈ c, absI x ≤ k) : manyI cs ≤ k := (mxI_le_iff _ _ _).mpr ⟨h0, fun x hx => by
  obtain ⟨c, hc, hx⟩ := List.mem_flatMap.mp hx
  obtain ⟨y, y1, e⟩ := List.mem_map.mp hx
  rw [← e]; exact h c hc y y1⟩
def breaksB (cs : List (List Int)) (w : List Int) : Bool := cs.any fun c => !holdsB c w
def modelsL (cs : List (List Int)) (m : Nat) : List (List Int) := (worldsL m).filter fun w => !breaksB cs w
/-- clauses as the law draws them: at most so many, ascending, of atoms 1 to 12 -/
structure CsOk (cs : List (List Int)) : Prop where
  many : cs.length ≤ 80
  ok : ∀ c ∈ cs, ClOk c
theorem CsOk.many_le {cs : List (List Int)} (h : CsOk cs) : manyI cs ≤ 12 := many_up (by decide) fun c hc x hx => by
  obtain ⟨h1, h2, _⟩ := (h.ok c hc).atoms x hx
  unfold absI; split <;> omega
theorem CsOk.fits {cs : List (List Int)} (h : CsOk cs) {m : Nat} (hm : manyI cs ≤ m) {w : List Int} (hw : w ∈ worldsL m) {c : List Int} (hc : c ∈ cs) : Fits c w := fun x hx =>
  ⟨((h.ok c hc).atoms x hx).2.2, by rw [worlds_len m w hw]; exact Int.le_trans (Lb.many_le hc hx) hm⟩
theorem law_models {cs : List (List Int)} (h : CsOk cs) : g__law_models [encC cs] = .ok true (.list ((modelsL cs (manyI cs).toNat).map encI)) [] := by
  have hl : ∀ c ∈ cs, c.length ≤ 100 := fun c hc => Nat.le_trans (h.ok c hc).len (by decide)
  have e1 := law_many (Nat.le_trans h.many (by decide)) hl
  have hm : ((manyI cs).toNat : Int) = manyI cs := Int.toNat_of_nonneg (many_nn cs)
  obtain ⟨b, e2⟩ := worlds (m := (manyI cs).toNat) (by have := h.many_le; omega)
  rw [hm] at e2
  have hz : (worldsL (manyI cs).toNat).length ≤ sizeLine := by
    rw [worlds_count]
    exact Nat.le_trans (Nat.pow_le_pow_right (by decide) (show (manyI cs).toNat ≤ 12 by have := h.many_le; omega)) (by decide)
  have c2 : ∀ w ∈ worldsL (manyI cs).toNat, m__law_models_2 [.cl (encC cs), .cl (encI w), .un] = .ok (!breaksB cs w) [.cl (encC cs), .cl (encI w), .un] := fun w hw => by
    have c1 : mLc (iSeqM (mV 0)) (tName 2) tYesM m__law_models_1 [2] [.cl (encC cs), .cl (encI w), .un] = .ok (.fr (.list (cs.map fun c => .bool (!holdsB c w)))) [.cl (encC cs), .cl (encI w), .un] :=
      mLc_encM encI _ (by simp -implicitDefEqProofs) rfl (Nat.le_trans h.many (by decide)) fun c hc => by
        have e := breaks (h.fits (by omega) hw hc) (h.ok c hc).size
        simp -implicitDefEqProofs [m__law_models_1, e]
    have a1 := fAny_map (fun c => !holdsB c w) cs
    simp -implicitDefEqProofs [m__law_models_2, c1, a1, breaksB]
  have c3 : mLc (iSeqM (mCall g__law_worlds [.pl] (aCons (mCall g__law_many [.pl] (aCons (mV 0) aNil)) aNil))) (tName 1) m__law_models_2 m__law_models_3 [1] [.cl (encC cs), .un, .un] = .ok (.fr (.list ((modelsL cs (manyI cs).toNat).map encI))) [.cl (encC cs), .un, .un] :=
    mLc_encF encI _ _ (by cases b <;> simp -implicitDefEqProofs [e1, e2]) rfl hz (fun w hw => c2 w hw) fun w hw _ => by simp -implicitDefEqProofs [m__law_models_3]
  simp -implicitDefEqProofs [g__law_models, runD, m__law_models, c3]
end Lb
set_option maxHeartbeats 2000000
namespace Lb
open PySem PySem.Spec L2 Vx
theorem rngD_map (n : Nat) : rngD 0 n = (List.range n).map fun (i : Nat) => PyData.int (i : Nat) := by
  unfold rngD
  simp
theorem not_any {α : Type} (p : α → Bool) : ∀ l : List α, (!l.any fun c => !p c) = l.all p
  | [] => rfl
  | a :: l => by rw [List.any_cons, List.all_cons, ← not_any p l]; cases p a <;> rfl
theorem models_of {cs : List (List Int)} (h : CsOk cs) (h10 : manyI cs ≤ 10) : g_models_of [encC cs] = .ok true (.list ((modelsL cs (manyI cs).toNat).map encI)) [] := by
  have hl : ∀ c ∈ cs, c.length ≤ 100 := fun c hc => Nat.le_trans (h.ok c hc).len (by decide)
  have e0 := check_ok h.many h.ok
  have e1 := many_in (Nat.le_trans h.many (by decide)) hl
  rw [many_eq fun c hc => (h.ok c hc).up] at e1
  have hm : ((manyI cs).toNat : Int) = manyI cs := Int.toNat_of_nonneg (many_nn cs)
  have e2 := two_to_nat (manyI cs).toNat (by omega)
  have hp : 2 ^ (manyI cs).toNat ≤ 1024 := Nat.le_trans (Nat.pow_le_pow_right (by decide) (show (manyI cs).toNat ≤ 10 by omega)) (by decide)
  have hr := rng1_of (j := ((2 ^ (manyI cs).toNat : Nat) : Int)) (Int.natCast_nonneg _) (Int.lt_of_le_of_lt (Int.ofNat_le.mpr hp) (by decide))
  rw [show (((2 ^ (manyI cs).toNat : Nat) : Int)).toNat = 2 ^ (manyI cs).toNat from rfl] at hr
  have hn : ¬ (10 : Int) < manyI cs := by omega
  obtain ⟨N, hN⟩ : ∃ N, N = 2 ^ (manyI cs).toNat := ⟨_, rfl⟩
  rw [← hN] at hr e2 hp
  have hzz : (1024 : Nat) ≤ sizeLine := by decide
  generalize em : (manyI cs).toNat = m at *
  rw [← hm] at e1 hn
  have c1 : mLc (iFn rng1 (aCons (mCall g_two_to [.pl] (aCons (mV 1) aNil)) aNil)) (tName 3) tYesM m_models_of_3 [3] [.cl (encC cs), .cl (.int (m : Nat)), .un, .un, .un] = .ok (.fr (.list ((worldsL m).map encI))) [.cl (encC cs), .cl (.int (m : Nat)), .un, .un, .un] := by
    have := mLc_encM (it := iFn rng1 (aCons (mCall g_two_to [.pl] (aCons (mV 1) aNil)) aNil)) (e := m_models_of_3) (v := 3) (l := List.range N) (fun (i : Nat) => PyData.int (i : Nat)) (fun i => encI (bitsB m i)) (ρ := [.cl (encC cs), .cl (.int (m : Nat)), .un, .un, .un]) (ρ1 := [.cl (encC cs), .cl (.int (m : Nat)), .un, .un, .un])
      (by rw [← rngD_map]; simp -implicitDefEqProofs [e2, hr]) rfl (by rw [List.length_range]; omega) fun i _ => by
        have e := bits_of i m (by omega)
        simp -implicitDefEqProofs [m_models_of_3, e]
    rw [this, ← bits_worlds, List.map_map, hN]
    rfl
  have c2 : mLc (iSeqM (mV 2)) (tName 4) m_models_of_1 m_models_of_2 [4] [.cl (encC cs), .cl (.int (m : Nat)), .ow (.list ((worldsL m).map encI)), .un, .un] = .ok (.fr (.list ((modelsL cs m).map encI))) [.cl (encC cs), .cl (.int (m : Nat)), .cl (.list ((worldsL m).map encI)), .un, .un] :=
    mLc_encF encI _ _ (by simp -implicitDefEqProofs) rfl (by rw [worlds_count, ← hN]; omega) (fun w hw => by
      obtain ⟨d, e, en⟩ := first_broken (cs := cs) (w := w) (fun c hc => h.fits (by omega) hw hc) (fun c hc => (h.ok c hc).size)
      have eb : (!breaksB cs w) = isNo d := by
        rw [en]; exact not_any (fun c => holdsB c w) cs
      rw [eb]
      simp -implicitDefEqProofs [m_models_of_1, e]) fun w hw _ => by simp -implicitDefEqProofs [m_models_of_2]
  simp -implicitDefEqProofs [g_models_of, runD, m_models_of, e0, e1, hn, c1, c2]
end Lb
set_option maxHeartbeats 2000000
namespace Lb
open PySem PySem.Spec L2 Vx
def subB (y x : List Int) : Bool := y.all fun a => decide (a ∈ x)
theorem is_part (y x : List Int) (hz : y.length ≤ sizeLine) : g_is_part [encI y, encI x] = .ok false (.bool (subB y x)) [] := by
  have c1 : mLc (iSeqM (mV 0)) (tName 2) tYesM m_is_part_1 [2] [.cl (encI y), .cl (encI x), .un] = .ok (.fr (.list (y.map fun a => .bool (decide (a ∈ x))))) [.cl (encI y), .cl (encI x), .un] :=
    mLc_encM .int _ (by simp -implicitDefEqProofs) rfl hz fun a _ => by
      have e := fIn_I a x
      simp -implicitDefEqProofs [m_is_part_1, e]
  have a1 := fAll_map (fun a => decide (a ∈ x)) y
  simp -implicitDefEqProofs [g_is_part, runD, m_is_part, c1, a1, subB]
theorem has_all (x y : List Int) (hz : y.length ≤ sizeLine) : g__law_has_all [encI x, encI y] = .ok false (.bool (subB y x)) [] := by
  have c1 : mLc (iSeqM (mV 1)) (tName 2) tYesM m__law_has_all_1 [2] [.cl (encI x), .cl (encI y), .un] = .ok (.fr (.list (y.map fun a => .bool (decide (a ∈ x))))) [.cl (encI x), .cl (encI y), .un] :=
    mLc_encM .int _ (by simp -implicitDefEqProofs) rfl hz fun a _ => by
      have e := fIn_I a x
      simp -implicitDefEqProofs [m__law_has_all_1, e]
  have a1 := fAll_map (fun a => decide (a ∈ x)) y
  simp -implicitDefEqProofs [g__law_has_all, runD, m__law_has_all, c1, a1, subB]
theorem mLc_pairM {α : Type} {it : M (List D)} {e : _} {v u : Nat} {ρ ρ1 : Ev} {l : List α} (eb ec : α → D) (f : α → D) (hi : it ρ = .ok (l.map fun q => PyData.tuple [eb q, ec q]) ρ1) (hvu : v ≠ u) (hw : wipable ρ1[v]? = true) (hw2 : wipable ρ1[u]? = true) (hz : l.length ≤ sizeLine)
    (h : ∀ q ∈ l, mK e ((ρ1.set v (.cl (eb q))).set u (.cl (ec q))) = .ok (f q) ((ρ1.set v (.cl (eb q))).set u (.cl (ec q)))) :
    mLc it (Vx.tTup (tsCons (tName v) (tsCons (tName u) tsNil))) tYesM e [v, u] ρ = .ok (.fr (.list (l.map f))) ρ1 := by
  have := mLc_enc (vs := [v, u]) (t := Vx.tTup (tsCons (tName v) (tsCons (tName u) tsNil))) (tt := tYesM) (e := e) (fun q => PyData.tuple [eb q, ec q]) (fun _ => true) f hi (by simp [hw, hw2]) hz fun q hq => ⟨_, (set2 hvu hw hw2).1, (set2 hvu hw hw2).2, rfl, fun _ => h q hq⟩
  rwa [List.filter_eq_self.mpr fun _ _ => rfl] at this
/-- the clause c at the place k falls -/
def dropB (cs : List (List Int)) (k : Nat) (c : List Int) : Bool := cs.zipIdx.any fun q => subB q.1 c && (!decide (q.1 = c) || decide (q.2 < k))
def thinL (cs : List (List Int)) : List (List Int) := (cs.zipIdx.filter fun q => !dropB cs q.2 q.1).map (·.1)
theorem thinned {cs : List (List Int)} (h : CsOk cs) : g_thinned [encC cs] = .ok false (encC (thinL cs)) [] := by
  have e0 := check_ok h.many h.ok
  have sz : ∀ c ∈ cs, c.length ≤ sizeLine := fun c hc => (h.ok c hc).size
  have hzl : cs.length ≤ sizeLine := Nat.le_trans h.many (by decide)
  let P : Nat → Ev → Prop := fun i ρ => ∃ s2 s3, ρ = [.cl (encC cs), .ow (.list ((((cs.zipIdx.take i).filter fun q => !dropB cs q.2 q.1).map (·.1)).map encI)), s2, s3, .un, .un] ∧ free (some s2) = true ∧ free (some s3) = true
  obtain ⟨ρ', e, s2, s3, eρ, _⟩ := forI_inv (t := Vx.tTup (tsCons (tName 2) (tsCons (tName 3) tsNil))) (b := m_thinned_2) (P := P) (enumD 0 (cs.map encI)) 0 [.cl (encC cs), .ow (.list []), .un, .un, .un, .un] ⟨.un, .un, by simp, rfl, rfl⟩ fun i d ρ hd hp => by
    obtain ⟨s2, s3, eρ, hs2, hs3⟩ := hp
    rw [Nat.zero_add] at eρ ⊢
    subst eρ
    rw [enum_enc, List.getElem?_map] at hd
    cases hci : cs.zipIdx[i]? with
    | none => rw [hci] at hd; cases hd
    | some q =>
      rw [hci] at hd
      obtain ⟨c, k⟩ := q
      have hd : PyData.tuple [.int (k : Nat), encI c] = d := Option.some.inj hd
      subst hd
      have hcm : c ∈ cs := by
        have := List.mem_of_getElem? hci
        exact (List.mem_zipIdx_iff_getElem?.mp this) |> List.mem_of_getElem?
      have ht : cs.zipIdx.take (i + 1) = cs.zipIdx.take i ++ [(c, k)] := by rw [List.take_add_one, hci]; rfl
      have hl : (((cs.zipIdx.take i).filter fun q => !dropB cs q.2 q.1).map (·.1)).length < sizeLine := by
        rw [List.length_map]
        refine Nat.lt_of_le_of_lt (List.length_filter_le _ _) ?_
        rw [List.length_take, List.length_zipIdx]
        exact Nat.lt_of_le_of_lt (show _ ≤ 80 by have := h.many; omega) (by decide)
      have fe : ((cs.zipIdx.take (i + 1)).filter fun q => !dropB cs q.2 q.1).map (·.1) = ((cs.zipIdx.take i).filter fun q => !dropB cs q.2 q.1).map (·.1) ++ (if dropB cs k c then [] else [c]) := by
        rw [ht, List.filter_append, List.map_append]
        congr 1
        cases hb : dropB cs k c <;> simp [hb]
      generalize ((cs.zipIdx.take i).filter fun q => !dropB cs q.2 q.1).map (·.1) = acc at hl fe ⊢
      have c1 : mLc (iFnK enm (kiCons (mV 0) kiNil)) (Vx.tTup (tsCons (tName 4) (tsCons (tName 5) tsNil))) tYesM m_thinned_1 [4, 5] [.cl (encC cs), .ow (.list (acc.map encI)), .cl (.int (k : Nat)), .cl (encI c), .un, .un] =
          .ok (.fr (.list (cs.zipIdx.map fun q => .bool (subB q.1 c && (!decide (q.1 = c) || decide (q.2 < k)))))) [.cl (encC cs), .ow (.list (acc.map encI)), .cl (.int (k : Nat)), .cl (encI c), .un, .un] := by
        refine mLc_pairM (v := 4) (u := 5) (fun q : List Int × Nat => .int (q.2 : Nat)) (fun q => encI q.1) (fun q => .bool (subB q.1 c && (!decide (q.1 = c) || decide (q.2 < k)))) (l := cs.zipIdx) ?_ (by decide) rfl rfl (by rw [List.length_zipIdx]; exact hzl) (fun q hq => ?_)
        · have := enum_enc encI cs 0
          simp -implicitDefEqProofs [this]
        · obtain ⟨y, j⟩ := q
          have hy : y ∈ cs := List.mem_of_getElem? (List.mem_zipIdx_iff_getElem?.mp hq)
          have ep := is_part y c (sz y hy)
          have en := fNe_I y c
          cases hs : subB y c
          · rw [hs] at ep
            simp -implicitDefEqProofs [m_thinned_1, ep]
          · rw [hs] at ep
            by_cases hyc : y = c
            · rw [hyc] at ep en ⊢
              simp -implicitDefEqProofs [m_thinned_1, ep, en]
            · simp -implicitDefEqProofs [m_thinned_1, ep, en, hyc]
      have a1 := fAny_map (fun q : List Int × Nat => subB q.1 c && (!decide (q.1 = c) || decide (q.2 < k))) cs.zipIdx
      refine ⟨[.cl (encC cs), .ow (.list (acc.map encI)), .cl (.int (k : Nat)), .cl (encI c), .un, .un], [.cl (encC cs), .ow (.list ((acc ++ (if dropB cs k c then [] else [c])).map encI)), .cl (.int (k : Nat)), .cl (encI c), .un, .un], by simp [hs2, hs3], .inl ?_, .cl (.int (k : Nat)), .cl (encI c), by rw [fe], rfl, rfl⟩
      have eb : (cs.zipIdx.any fun q => subB q.1 c && (!decide (q.1 = c) || decide (q.2 < k))) = dropB cs k c := rfl
      rw [eb] at a1
      cases hb : dropB cs k c
      · rw [hb] at a1
        simp -implicitDefEqProofs [m_thinned_2, c1, a1, hl]
      · rw [hb] at a1
        simp -implicitDefEqProofs [m_thinned_2, c1, a1]
  rw [Nat.zero_add, enumD_len, List.length_map, List.take_of_length_le (by rw [List.length_zipIdx]; exact Nat.le_refl _)] at eρ
  subst eρ
  have et : ((cs.zipIdx.filter fun q => !dropB cs q.2 q.1).map (·.1)) = thinL cs := rfl
  rw [et] at e
  simp -implicitDefEqProofs [g_thinned, runD, m_thinned, e0, e]
end Lb
set_option maxHeartbeats 2000000
namespace Lb
open PySem PySem.Spec L2 Vx
def keepT (cs : List (List Int)) (k : Nat) (c : List Int) : Bool := !((cs.take k).any fun o => subB o c) && !((cs.drop (k + 1)).any fun o => subB o c && !decide (o = c))
theorem any_congr {α : Type} {p q : α → Bool} {l : List α} (h : ∀ x ∈ l, p x = q x) : l.any p = l.any q := by
  induction l with
  | nil => rfl
  | cons a l ih => rw [List.any_cons, List.any_cons, h a List.mem_cons_self, ih fun x hx => h x (List.mem_cons_of_mem _ hx)]
theorem subB_refl (c : List Int) : subB c c = true := by
  rw [subB, List.all_eq_true]; intro a ha; exact decide_eq_true ha
theorem keep_drop {cs : List (List Int)} {k : Nat} {c : List Int} (h : cs[k]? = some c) : keepT cs k c = !dropB cs k c := by
  unfold keepT dropB
  have hk : k < cs.length := (List.getElem?_eq_some_iff.mp h).1
  have e : cs = cs.take k ++ c :: cs.drop (k + 1) := by
    have e1 : cs[k] = c := (List.getElem?_eq_some_iff.mp h).2
    rw [← e1, List.getElem_cons_drop, List.take_append_drop]
  have lt : (cs.take k).length = k := by rw [List.length_take]; omega
  generalize cs.take k = a at *
  generalize cs.drop (k + 1) = b at *
  rw [e, List.zipIdx_append, List.any_append, List.zipIdx_cons, List.any_cons, lt, Nat.zero_add]
  have q1 : (a.zipIdx.any fun q => subB q.1 c && (!decide (q.1 = c) || decide (q.2 < k))) = a.any fun o => subB o c := by
    rw [any_congr (q := fun q : List Int × Nat => subB q.1 c) fun x hx => ?_]
    · have : a = a.zipIdx.map Prod.fst := by simp
      conv => rhs; rw [this]
      rw [List.any_map]; rfl
    · have := List.mem_zipIdx hx
      have h2 : x.2 < k := by omega
      simp [h2]
  have q2 : ((b.zipIdx (k + 1)).any fun q => subB q.1 c && (!decide (q.1 = c) || decide (q.2 < k))) = b.any fun o => subB o c && !decide (o = c) := by
    rw [any_congr (q := fun q : List Int × Nat => subB q.1 c && !decide (q.1 = c)) fun x hx => ?_]
    · have : b = (b.zipIdx (k + 1)).map Prod.fst := by simp
      conv => rhs; rw [this]
      rw [List.any_map]; rfl
    · have := List.mem_zipIdx hx
      have h2 : ¬ x.2 < k := by omega
      simp [h2]
  rw [q1, q2]
  simp
theorem truD_bool (b : Bool) : truD (.bool b) = some b := rfl
theorem none_of {α : Type} (p : α → Bool) (l : List α) : (l.filter p).length = 0 ↔ l.any p = false := by
  rw [List.length_eq_zero_iff, List.filter_eq_nil_iff, List.any_eq_false]
theorem no_both {α : Type} (p q : α → Bool) (l m : List α) : decide (((l.filter p).length : Int) + ((m.filter q).length : Int) = 0) = (!l.any p && !m.any q) := by
  have h1 := none_of p l
  have h2 := none_of q m
  cases a : l.any p <;> cases b : m.any q <;> rw [a] at h1 <;> rw [b] at h2 <;> simp only [Bool.true_eq_false, iff_false, iff_true] at h1 h2 <;> simp only [Bool.not_true, Bool.not_false, Bool.and_true, Bool.and_false, decide_eq_true_eq, decide_eq_false_iff_not] <;> omega
theorem one_size : 1 ≤ sizeLine := by decide
theorem fRep_1 (d : D) : fRep (.list [d]) (.int 1) = some (.fr (.list [d])) := by
  show (if (okIx 1 && decide ([d].length * 1 ≤ sizeLine)) = true then some (Op.fr (.list (List.replicate 1 [d]).flatten)) else none) = _
  rw [if_pos (by rw [Bool.and_eq_true]; exact ⟨okIx_of (by decide) (by decide), decide_eq_true one_size⟩)]
  rfl
theorem fRep_0 (d : D) : fRep (.list [d]) (.int 0) = some (.fr (.list [])) := by
  show (if (okIx 0 && decide ([d].length * 0 ≤ sizeLine)) = true then some (Op.fr (.list (List.replicate 0 [d]).flatten)) else none) = _
  rw [if_pos (by rw [Bool.and_eq_true]; exact ⟨okIx_of (by decide) (by decide), decide_eq_true (Nat.zero_le _)⟩)]
  rfl
theorem law_thin {cs : List (List Int)} (h : CsOk cs) : g__law_thin [encC cs] = .ok false (encC (thinL cs)) [] := by
  have sz : ∀ c ∈ cs, c.length ≤ sizeLine := fun c hc => (h.ok c hc).size
  have hz80 := h.many
  let P : Nat → Ev → Prop := fun i ρ => ∃ s2 s3 s4 s5, ρ = [.cl (encC cs), .ow (.list ((((cs.zipIdx.take i).filter fun q => !dropB cs q.2 q.1).map (·.1)).map encI)), s2, s3, s4, s5, .un] ∧ free (some s2) = true ∧ free (some s3) = true ∧ free (some s4) = true ∧ free (some s5) = true
  obtain ⟨ρ', e, s2, s3, s4, s5, eρ, _⟩ := forI_inv (t := Vx.tTup (tsCons (tName 2) (tsCons (tName 3) tsNil))) (b := m__law_thin_5) (P := P) (enumD 0 (cs.map encI)) 0 [.cl (encC cs), .ow (.list []), .un, .un, .un, .un, .un] ⟨.un, .un, .un, .un, by simp, rfl, rfl, rfl, rfl⟩ fun i d ρ hd hp => by
    obtain ⟨s2, s3, s4, s5, eρ, hs2, hs3, hs4, hs5⟩ := hp
    rw [Nat.zero_add] at eρ ⊢
    subst eρ
    rw [enum_enc, List.getElem?_map] at hd
    cases hci : cs.zipIdx[i]? with
    | none => rw [hci] at hd; cases hd
    | some q =>
      rw [hci] at hd
      obtain ⟨c, k⟩ := q
      have hd : PyData.tuple [.int (k : Nat), encI c] = d := Option.some.inj hd
      subst hd
      have hck : cs[k]? = some c := by
        have := List.mem_of_getElem? hci
        exact List.mem_zipIdx_iff_getElem?.mp this
      have hcm : c ∈ cs := List.mem_of_getElem? hck
      have hsz := sz c hcm
      have ht : cs.zipIdx.take (i + 1) = cs.zipIdx.take i ++ [(c, k)] := by rw [List.take_add_one, hci]; rfl
      have hl : (((cs.zipIdx.take i).filter fun q => !dropB cs q.2 q.1).map (·.1)).length ≤ 80 := by
        rw [List.length_map]
        refine Nat.le_trans (List.length_filter_le _ _) ?_
        rw [List.length_take, List.length_zipIdx]
        omega
      have fe : ((cs.zipIdx.take (i + 1)).filter fun q => !dropB cs q.2 q.1).map (·.1) = ((cs.zipIdx.take i).filter fun q => !dropB cs q.2 q.1).map (·.1) ++ (if dropB cs k c then [] else [c]) := by
        rw [ht, List.filter_append, List.map_append]
        congr 1
        cases hb : dropB cs k c <;> simp [hb]
      generalize ((cs.zipIdx.take i).filter fun q => !dropB cs q.2 q.1).map (·.1) = acc at hl fe ⊢
      have ct := cut_to (cs.map encI) k
      have cf : cutD (cs.map encI) (some ((k : Int) + 1)) none = (cs.map encI).drop (k + 1) := cut_from (cs.map encI) (k + 1)
      rw [← List.map_take] at ct
      rw [← List.map_drop] at cf
      have c1 : mLc (iSeqM (mSl fSl (mV 0) bNo (bAt (mV 2)))) (tName 6) m__law_thin_3 m__law_thin_4 [6] [.cl (encC cs), .ow (.list (acc.map encI)), .cl (.int (k : Nat)), .cl (encI c), s4, s5, .un] = .ok (.fr (.list (((cs.take k).filter fun o => subB o c).map encI))) [.cl (encC cs), .ow (.list (acc.map encI)), .cl (.int (k : Nat)), .cl (encI c), s4, s5, .un] :=
        mLc_encF encI (fun o => subB o c) _ (by simp -implicitDefEqProofs [ct]) rfl (by rw [List.length_take]; exact Nat.le_trans (show _ ≤ 80 by omega) (by decide)) (fun o ho => by
          have := has_all c o (sz o (List.mem_of_mem_take ho))
          simp -implicitDefEqProofs [m__law_thin_3, this, truD_bool]) fun o _ _ => by simp -implicitDefEqProofs [m__law_thin_4]
      have c2 : ∀ x, mLc (iSeqM (mSl fSl (mV 0) (bAt (m2 fAdd (mV 2) (mC (.int 1)))) bNo)) (tName 6) m__law_thin_1 m__law_thin_2 [6] [.cl (encC cs), .ow (.list (acc.map encI)), .cl (.int (k : Nat)), .cl (encI c), x, s5, .un] = .ok (.fr (.list (((cs.drop (k + 1)).filter fun o => subB o c && !decide (o = c)).map encI))) [.cl (encC cs), .ow (.list (acc.map encI)), .cl (.int (k : Nat)), .cl (encI c), x, s5, .un] := fun x =>
        mLc_encF encI (fun o => subB o c && !decide (o = c)) _ (by
          simp -implicitDefEqProofs [cf]) rfl (by rw [List.length_drop]; exact Nat.le_trans (show _ ≤ 80 by omega) (by decide)) (fun o ho => by
          have := has_all c o (sz o (List.mem_of_mem_drop ho))
          have en := fNe_I o c
          cases hs : subB o c
          · rw [hs] at this
            simp -implicitDefEqProofs [m__law_thin_1, this, truD_bool]
          · rw [hs] at this
            simp -implicitDefEqProofs [m__law_thin_1, this, en, truD_bool]) fun o _ _ => by simp -implicitDefEqProofs [m__law_thin_2]
      have kd := keep_drop hck
      have zz : acc.length + 1 ≤ sizeLine := Nat.le_trans (show _ ≤ 81 by omega) (by decide)
      have ke : decide (((((cs.take k).filter fun o => subB o c).length : Int) + (((cs.drop (k + 1)).filter fun o => subB o c && !decide (o = c)).length : Int)) = 0) = keepT cs k c := no_both _ _ _ _
      refine ⟨[.cl (encC cs), .ow (.list (acc.map encI)), .cl (.int (k : Nat)), .cl (encI c), s4, s5, .un], [.cl (encC cs), .ow (.list ((acc ++ (if dropB cs k c then [] else [c])).map encI)), .cl (.int (k : Nat)), .cl (encI c), .ow (.list (((cs.take k).filter fun o => subB o c).map encI)), .ow (.list (((cs.drop (k + 1)).filter fun o => subB o c && !decide (o = c)).map encI)), .un], by simp [hs2, hs3], .inl ?_, .cl (.int (k : Nat)), .cl (encI c), .ow (.list (((cs.take k).filter fun o => subB o c).map encI)), .ow (.list (((cs.drop (k + 1)).filter fun o => subB o c && !decide (o = c)).map encI)), by rw [fe], rfl, rfl, rfl, rfl⟩
      rw [kd] at ke
      clear fe kd
      cases hb : dropB cs k c <;> rw [hb] at ke
      · simp -implicitDefEqProofs [m__law_thin_5, c1, c2, hs4, hs5, ke, one_size, fRep_1, fRep_0, zz]
      · have z0 : acc.length ≤ sizeLine := by omega
        simp -implicitDefEqProofs [m__law_thin_5, c1, c2, hs4, hs5, ke, one_size, fRep_1, fRep_0, z0]
  rw [Nat.zero_add, enumD_len, List.length_map, List.take_of_length_le (by rw [List.length_zipIdx]; exact Nat.le_refl _)] at eρ
  subst eρ
  have et : ((cs.zipIdx.filter fun q => !dropB cs q.2 q.1).map (·.1)) = thinL cs := rfl
  rw [et] at e
  simp -implicitDefEqProofs [g__law_thin, runD, m__law_thin, e]
end Lb
set_option maxHeartbeats 2000000
namespace Lb
open PySem PySem.Spec L2 Vx
theorem subB_iff {y x : List Int} : subB y x = true ↔ ∀ a ∈ y, a ∈ x := by
  rw [subB, List.all_eq_true]; simp only [decide_eq_true_eq]
theorem up_ext : ∀ {a b : List Int}, a.Pairwise (fun x y => absI x < absI y) → b.Pairwise (fun x y => absI x < absI y) → (∀ x ∈ a, x ∈ b) → (∀ x ∈ b, x ∈ a) → a = b
  | [], [], _, _, _, _ => rfl
  | [], y :: b, _, _, _, h => nomatch h y List.mem_cons_self
  | x :: a, [], _, _, h, _ => nomatch h x List.mem_cons_self
  | x :: a, y :: b, ha, hb, h1, h2 => by
    have ha := List.pairwise_cons.mp ha
    have hb := List.pairwise_cons.mp hb
    have e : x = y := by
      rcases List.mem_cons.mp (h1 x List.mem_cons_self) with e | m1
      · exact e
      rcases List.mem_cons.mp (h2 y List.mem_cons_self) with e | m2
      · exact e.symm
      have q1 := hb.1 x m1
      have q2 := ha.1 y m2
      omega
    subst e
    congr 1
    refine up_ext ha.2 hb.2 (fun z hz => ?_) fun z hz => ?_
    · rcases List.mem_cons.mp (h1 z (List.mem_cons_of_mem _ hz)) with e | m
      · subst e; have := ha.1 z hz; omega
      · exact m
    · rcases List.mem_cons.mp (h2 z (List.mem_cons_of_mem _ hz)) with e | m
      · subst e; have := hb.1 z hz; omega
      · exact m
theorem thin_sub (cs : List (List Int)) : (thinL cs).Sublist cs := by
  have : (thinL cs).Sublist (cs.zipIdx.map Prod.fst) := (List.filter_sublist).map _
  simpa using this
theorem CsOk.sub {cs ds : List (List Int)} (h : CsOk cs) (s : ds.Sublist cs) : CsOk ds := ⟨Nat.le_trans s.length_le h.many, fun c hc => h.ok c (s.subset hc)⟩
theorem CsOk.thin {cs : List (List Int)} (h : CsOk cs) : CsOk (thinL cs) := h.sub (thin_sub cs)
theorem countP_lt {α : Type} {p q : α → Bool} : ∀ {l : List α}, (∀ x ∈ l, p x = true → q x = true) → (∃ x ∈ l, p x = false ∧ q x = true) → l.countP p < l.countP q
  | [], _, h => nomatch h
  | a :: l, h, ⟨x, hx, h1, h2⟩ => by
    have m : l.countP p ≤ l.countP q := List.countP_mono_left fun y hy => h y (List.mem_cons_of_mem _ hy)
    rcases List.mem_cons.mp hx with e | hx
    · subst e
      rw [List.countP_cons_of_neg (by rw [h1]; decide), List.countP_cons_of_pos h2]; omega
    · have := countP_lt (fun y hy => h y (List.mem_cons_of_mem _ hy)) ⟨x, hx, h1, h2⟩
      by_cases c : p a = true
      · rw [List.countP_cons_of_pos c, List.countP_cons_of_pos (h a List.mem_cons_self c)]; omega
      · rw [List.countP_cons_of_neg c, List.countP_cons]; omega
theorem thin_below {cs : List (List Int)} (h : ∀ c ∈ cs, c.Pairwise fun x y => absI x < absI y) (M : Nat) : ∀ (c : List Int) (k : Nat), (c, k) ∈ cs.zipIdx → cs.countP (fun o => subB o c) * (cs.length + 1) + k ≤ M → ∃ o ∈ thinL cs, subB o c = true := by
  induction M using Nat.strongRecOn with
  | ind M ih =>
    intro c k hc hM
    have hm : c ∈ cs := List.mem_of_getElem? (List.mem_zipIdx_iff_getElem?.mp hc)
    cases hd : dropB cs k c with
    | false =>
      refine ⟨c, List.mem_map.mpr ⟨(c, k), List.mem_filter.mpr ⟨hc, ?_⟩, rfl⟩, subB_refl c⟩
      show (!dropB cs k c) = true
      rw [hd]; rfl
    | true =>
      obtain ⟨⟨o, j⟩, hoj, hp⟩ := List.any_eq_true.mp hd
      rw [Bool.and_eq_true] at hp
      obtain ⟨hs, hp⟩ := hp
      have hom : o ∈ cs := List.mem_of_getElem? (List.mem_zipIdx_iff_getElem?.mp hoj)
      have hjl : j < cs.length := (List.getElem?_eq_some_iff.mp (List.mem_zipIdx_iff_getElem?.mp hoj)).1
      have lt : cs.countP (fun x => subB x o) * (cs.length + 1) + j < cs.countP (fun x => subB x c) * (cs.length + 1) + k := by
        by_cases e : o = c
        · subst e
          have : j < k := by simpa using hp
          omega
        · have l := countP_lt (p := fun x => subB x o) (q := fun x => subB x c) (l := cs) (fun x _ hx => subB_iff.mpr fun a ha => subB_iff.mp hs a (subB_iff.mp hx a ha)) ⟨c, hm, by
            cases q : subB c o with
            | false => rfl
            | true => exact absurd (up_ext (h o hom) (h c hm) (subB_iff.mp hs) (subB_iff.mp q)) e, subB_refl c⟩
          have := Nat.mul_le_mul_right (cs.length + 1) (Nat.succ_le_of_lt l)
          rw [Nat.succ_mul] at this
          omega
      obtain ⟨x, hx, hxo⟩ := ih _ (Nat.lt_of_lt_of_le lt hM) o j hoj (Nat.le_refl _)
      exact ⟨x, hx, subB_iff.mpr fun a ha => subB_iff.mp hs a (subB_iff.mp hxo a ha)⟩
theorem thin_ex {cs : List (List Int)} (h : ∀ c ∈ cs, c.Pairwise fun x y => absI x < absI y) {c : List Int} (hc : c ∈ cs) : ∃ o ∈ thinL cs, subB o c = true := by
  obtain ⟨k, hk⟩ := List.getElem?_of_mem hc
  exact thin_below h _ c k (List.mem_zipIdx_iff_getElem?.mpr hk) (Nat.le_refl _)
theorem holds_up {o c w : List Int} (h : subB o c = true) (h2 : holdsB o w = true) : holdsB c w = true := by
  obtain ⟨x, hx, hl⟩ := List.any_eq_true.mp h2
  exact List.any_eq_true.mpr ⟨x, subB_iff.mp h x hx, hl⟩
theorem thin_breaks {cs : List (List Int)} (h : ∀ c ∈ cs, c.Pairwise fun x y => absI x < absI y) (w : List Int) : breaksB (thinL cs) w = breaksB cs w := by
  rw [Bool.eq_iff_iff]
  constructor
  · intro q
    obtain ⟨c, hc, hb⟩ := List.any_eq_true.mp q
    exact List.any_eq_true.mpr ⟨c, (thin_sub cs).subset hc, hb⟩
  · intro q
    obtain ⟨c, hc, hb⟩ := List.any_eq_true.mp q
    obtain ⟨o, ho, hs⟩ := thin_ex h hc
    refine List.any_eq_true.mpr ⟨o, ho, ?_⟩
    cases hh : holdsB o w with
    | false => rfl
    | true => rw [holds_up hs hh] at hb; cases hb
theorem thin_thin (cs : List (List Int)) : thinL (thinL cs) = thinL cs := by
  have e : ∀ ds : List (List Int), (∀ q ∈ ds.zipIdx, dropB ds q.2 q.1 = false) → thinL ds = ds := fun ds h => by
    unfold thinL
    rw [List.filter_eq_self.mpr fun q hq => by rw [h q hq]; rfl]
    simp
  refine e _ fun q hq => ?_
  obtain ⟨c, k'⟩ := q
  have pw : (cs.zipIdx.filter fun q => !dropB cs q.2 q.1).Pairwise fun a b => a.2 < b.2 := by
    refine List.Pairwise.sublist List.filter_sublist ?_
    have := List.pairwise_lt_range' (s := 0) (n := cs.length) (step := 1) (by decide)
    rw [← List.zipIdx_map_snd] at this
    exact List.pairwise_map.mp this
  have hk := List.mem_zipIdx_iff_getElem?.mp hq
  unfold thinL at hk
  rw [List.getElem?_map] at hk
  obtain ⟨⟨c2, k⟩, hk, e2⟩ := Option.map_eq_some_iff.mp hk
  have e2 : c2 = c := e2
  subst e2
  cases hd : dropB (thinL cs) k' c2 with
  | false => rfl
  | true =>
    obtain ⟨⟨o, j'⟩, hoj, hp⟩ := List.any_eq_true.mp hd
    rw [Bool.and_eq_true] at hp
    obtain ⟨hs, hp⟩ := hp
    have hj := List.mem_zipIdx_iff_getElem?.mp hoj
    unfold thinL at hj
    rw [List.getElem?_map] at hj
    obtain ⟨⟨o2, j⟩, hj, e3⟩ := Option.map_eq_some_iff.mp hj
    have e3 : o2 = o := e3
    subst e3
    have mk := List.mem_filter.mp (List.mem_of_getElem? hk)
    have mj := List.mem_filter.mp (List.mem_of_getElem? hj)
    have nd : dropB cs k c2 = false := by
      have := mk.2
      cases q : dropB cs k c2 with
      | false => rfl
      | true => simp only [q] at this; cases this
    have yd : dropB cs k c2 = true := by
      refine List.any_eq_true.mpr ⟨(o2, j), mj.1, ?_⟩
      rw [Bool.and_eq_true]
      refine ⟨hs, ?_⟩
      by_cases eo : o2 = c2
      · have lt : j' < k' := by simpa [eo] using hp
        have := List.pairwise_iff_getElem.mp pw j' k' (List.getElem?_eq_some_iff.mp hj).1 (List.getElem?_eq_some_iff.mp hk).1 lt
        rw [(List.getElem?_eq_some_iff.mp hj).2, (List.getElem?_eq_some_iff.mp hk).2] at this
        simp [this]
      · simp [eo]
    rw [nd] at yd; cases yd
end Lb
set_option maxHeartbeats 2000000
namespace Lb
open PySem PySem.Spec L2 Vx
def cutC (lot c : List Int) : List Int := c.filter fun x => !decide (-x ∈ lot)
def leftL (cs : List (List Int)) (lot : List Int) : List (List Int) := (cs.filter fun c => !(lot.any fun x => decide (x ∈ c))).map (cutC lot)
theorem left_by {cs : List (List Int)} {lot : List Int} (hm : cs.length ≤ 80) (hz : ∀ c ∈ cs, c.length ≤ sizeLine) (hl : lot.length ≤ sizeLine) : g_left_by [encC cs, encI lot] = .ok false (encC (leftL cs lot)) [] := by
  let P : Nat → Ev → Prop := fun i ρ => ∃ s3, ρ = [.cl (encC cs), .cl (encI lot), .ow (.list ((leftL (cs.take i) lot).map encI)), s3, .un] ∧ free (some s3) = true
  obtain ⟨ρ', e, s3, eρ, _⟩ := forI_inv (t := tName 3) (b := m_left_by_4) (P := P) (cs.map encI) 0 [.cl (encC cs), .cl (encI lot), .ow (.list []), .un, .un] ⟨.un, by simp [leftL], rfl⟩ fun i d ρ hd hp => by
    obtain ⟨s3, eρ, hs3⟩ := hp
    rw [Nat.zero_add] at eρ ⊢
    subst eρ
    rw [List.getElem?_map] at hd
    cases hci : cs[i]? with
    | none => rw [hci] at hd; cases hd
    | some c =>
      rw [hci] at hd
      have hd : encI c = d := Option.some.inj hd
      subst hd
      have hcm : c ∈ cs := List.mem_of_getElem? hci
      have ht : cs.take (i + 1) = cs.take i ++ [c] := by rw [List.take_add_one, hci]; rfl
      have fe : leftL (cs.take (i + 1)) lot = leftL (cs.take i) lot ++ (if (lot.any fun x => decide (x ∈ c)) = true then [] else [cutC lot c]) := by
        unfold leftL
        rw [ht, List.filter_append, List.map_append]
        congr 1
        cases hb : (lot.any fun x => decide (x ∈ c)) <;> simp [hb]
      have hacc : (leftL (cs.take i) lot).length < sizeLine := by
        unfold leftL
        rw [List.length_map]
        refine Nat.lt_of_le_of_lt (List.length_filter_le _ _) ?_
        rw [List.length_take]
        exact Nat.lt_of_le_of_lt (show _ ≤ 80 by omega) (by decide)
      generalize leftL (cs.take i) lot = acc at hacc fe ⊢
      have c1 : mLc (iSeqM (mV 1)) (tName 4) tYesM m_left_by_1 [4] [.cl (encC cs), .cl (encI lot), .ow (.list (acc.map encI)), .cl (encI c), .un] = .ok (.fr (.list (lot.map fun x => .bool (decide (x ∈ c))))) [.cl (encC cs), .cl (encI lot), .ow (.list (acc.map encI)), .cl (encI c), .un] :=
        mLc_encM .int _ (by simp -implicitDefEqProofs) rfl hl fun x _ => by
          have := fIn_I x c
          simp -implicitDefEqProofs [m_left_by_1, this]
      have c2 : mLc (iSeqM (mV 3)) (tName 4) m_left_by_2 m_left_by_3 [4] [.cl (encC cs), .cl (encI lot), .ow (.list (acc.map encI)), .cl (encI c), .un] = .ok (.fr (.list ((cutC lot c).map .int))) [.cl (encC cs), .cl (encI lot), .ow (.list (acc.map encI)), .cl (encI c), .un] :=
        mLc_encF .int (fun x => !decide (-x ∈ lot)) _ (by simp -implicitDefEqProofs) rfl (hz c hcm) (fun x _ => by
          have := fNotIn_I (-x) lot
          simp -implicitDefEqProofs [m_left_by_2, this]) fun x _ _ => by simp -implicitDefEqProofs [m_left_by_3]
      have a1 := fAny_map (fun x => decide (x ∈ c)) lot
      refine ⟨[.cl (encC cs), .cl (encI lot), .ow (.list (acc.map encI)), .cl (encI c), .un], [.cl (encC cs), .cl (encI lot), .ow (.list ((acc ++ (if (lot.any fun x => decide (x ∈ c)) = true then [] else [cutC lot c])).map encI)), .cl (encI c), .un], by simp [hs3], .inl ?_, .cl (encI c), by rw [fe], rfl⟩
      cases hb : (lot.any fun x => decide (x ∈ c))
      · rw [hb] at a1
        simp -implicitDefEqProofs [m_left_by_4, c1, c2, a1, hacc]
      · rw [hb] at a1
        simp -implicitDefEqProofs [m_left_by_4, c1, a1]
  rw [Nat.zero_add, List.length_map, List.take_length] at eρ
  subst eρ
  simp -implicitDefEqProofs [g_left_by, runD, m_left_by, e]
theorem given_lot {cs : List (List Int)} (h : CsOk cs) {lot : List Int} (hl : ClOk lot) : g_given_lot [encC cs, encI lot] = .ok false (encC (leftL cs lot)) [] := by
  have e1 := check_ok h.many h.ok
  have e2 := check_lot_ok hl
  have e3 := left_by h.many (fun c hc => (h.ok c hc).size) hl.size
  simp -implicitDefEqProofs [g_given_lot, runD, m_given_lot, e1, e2, e3]
theorem any_sym (a b : List Int) : (a.any fun x => decide (x ∈ b)) = b.any fun x => decide (x ∈ a) := by
  rw [Bool.eq_iff_iff, List.any_eq_true, List.any_eq_true]
  simp only [decide_eq_true_eq]
  exact ⟨fun ⟨x, h1, h2⟩ => ⟨x, h2, h1⟩, fun ⟨x, h1, h2⟩ => ⟨x, h2, h1⟩⟩
theorem law_left {cs : List (List Int)} (h : CsOk cs) {lot : List Int} : g__law_left [encC cs, encI lot] = .ok false (encC (leftL cs lot)) [] := by
  have sz : ∀ c ∈ cs, c.length ≤ sizeLine := fun c hc => (h.ok c hc).size
  have h80 : 80 ≤ sizeLine := by decide
  have c1 : mLc (iSeqM (mV 0)) (tName 3) m__law_left_5 m__law_left_6 [3] [.cl (encC cs), .cl (encI lot), .un, .un, .un] = .ok (.fr (.list ((cs.filter fun c => !(lot.any fun x => decide (x ∈ c))).map encI))) [.cl (encC cs), .cl (encI lot), .un, .un, .un] :=
    mLc_encF encI (fun c => !(lot.any fun x => decide (x ∈ c))) _ (by simp -implicitDefEqProofs) rfl (Nat.le_trans h.many h80) (fun c hc => by
      have q : mLc (iSeqM (mV 3)) (tName 4) tYesM m__law_left_4 [4] [.cl (encC cs), .cl (encI lot), .un, .cl (encI c), .un] = .ok (.fr (.list (c.map fun x => .bool (decide (x ∈ lot))))) [.cl (encC cs), .cl (encI lot), .un, .cl (encI c), .un] :=
        mLc_encM .int _ (by simp -implicitDefEqProofs) rfl (sz c hc) fun x _ => by
          have := fIn_I x lot
          simp -implicitDefEqProofs [m__law_left_4, this]
      have a1 := fAny_map (fun x => decide (x ∈ lot)) c
      rw [any_sym c lot] at a1
      simp -implicitDefEqProofs [m__law_left_5, q, a1]) fun c _ _ => by simp -implicitDefEqProofs [m__law_left_6]
  have s2 : (cs.filter fun c => !(lot.any fun x => decide (x ∈ c))).length ≤ sizeLine := Nat.le_trans (List.length_filter_le _ _) (Nat.le_trans h.many h80)
  have sm : ∀ c ∈ (cs.filter fun c => !(lot.any fun x => decide (x ∈ c))), c.length ≤ sizeLine := fun c hc => sz c (List.mem_filter.mp hc).1
  have hf : (cs.filter fun c => !(lot.any fun x => decide (x ∈ c))).map (cutC lot) = leftL cs lot := rfl
  generalize (cs.filter fun c => !(lot.any fun x => decide (x ∈ c))) = fs at c1 s2 sm hf
  have c2 : mLc (iSeqM (mV 2)) (tName 3) tYesM m__law_left_3 [3] [.cl (encC cs), .cl (encI lot), .ow (.list (fs.map encI)), .un, .un] = .ok (.fr (.list (fs.map fun c => encI (cutC lot c)))) [.cl (encC cs), .cl (encI lot), .cl (.list (fs.map encI)), .un, .un] :=
    mLc_encM encI _ (by simp -implicitDefEqProofs) rfl s2 fun c hc => by
      have q : mLc (iSeqM (mV 3)) (tName 4) m__law_left_1 m__law_left_2 [4] [.cl (encC cs), .cl (encI lot), .cl (.list (fs.map encI)), .cl (encI c), .un] = .ok (.fr (.list ((cutC lot c).map .int))) [.cl (encC cs), .cl (encI lot), .cl (.list (fs.map encI)), .cl (encI c), .un] :=
        mLc_encF .int (fun x => !decide (-x ∈ lot)) _ (by simp -implicitDefEqProofs) rfl (sm c hc) (fun x _ => by
          have := fNotIn_I (-x) lot
          simp -implicitDefEqProofs [m__law_left_1, this]) fun x _ _ => by simp -implicitDefEqProofs [m__law_left_2]
      simp -implicitDefEqProofs [m__law_left_3, q]
  have hm : (fs.map fun c => encI (cutC lot c)) = (leftL cs lot).map encI := by rw [← hf, List.map_map]; rfl
  rw [hm] at c2
  simp -implicitDefEqProofs [g__law_left, runD, m__law_left, c1, c2]
end Lb
set_option maxHeartbeats 2000000
namespace Lb
open PySem PySem.Spec L2 Vx
theorem ClOk.sub {c d : List Int} (h : ClOk c) (s : d.Sublist c) : ClOk d := ⟨fun x hx => h.atoms x (s.subset hx), h.up.sublist s⟩
theorem CsOk.left {cs : List (List Int)} (h : CsOk cs) (lot : List Int) : CsOk (leftL cs lot) := by
  refine ⟨?_, fun c hc => ?_⟩
  · unfold leftL
    rw [List.length_map]
    exact Nat.le_trans (List.length_filter_le _ _) h.many
  · obtain ⟨d, hd, rfl⟩ := List.mem_map.mp hc
    exact (h.ok d (List.mem_filter.mp hd).1).sub List.filter_sublist
theorem absI_neg (x : Int) : absI (-x) = absI x := by unfold absI; split <;> split <;> omega
theorem litB_neg {w : List Int} {x : Int} (h0 : x ≠ 0) (h : litB w (-x) = true) : litB w x = false := by
  unfold litB at *
  rw [absI_neg] at h
  rw [decide_eq_true_eq] at h
  rw [h, decide_eq_false_iff_not]
  by_cases p : 0 < x
  · have : ¬ 0 < -x := by omega
    rw [if_pos p, if_neg this]; decide
  · have : 0 < -x := by omega
    rw [if_neg p, if_pos this]; decide
theorem holds_cut {w lot c : List Int} (hl : lot.all (litB w) = true) (h0 : ∀ x ∈ c, x ≠ 0) : holdsB (cutC lot c) w = holdsB c w := by
  rw [Bool.eq_iff_iff]
  constructor
  · intro h
    obtain ⟨x, hx, hp⟩ := List.any_eq_true.mp h
    exact List.any_eq_true.mpr ⟨x, (List.mem_filter.mp hx).1, hp⟩
  · intro h
    obtain ⟨x, hx, hp⟩ := List.any_eq_true.mp h
    refine List.any_eq_true.mpr ⟨x, List.mem_filter.mpr ⟨hx, ?_⟩, hp⟩
    by_cases m : -x ∈ lot
    · have := litB_neg (h0 x hx) (List.all_eq_true.mp hl _ m)
      rw [hp] at this; cases this
    · simp [m]
theorem left_breaks {cs : List (List Int)} {w lot : List Int} (hl : lot.all (litB w) = true) (h0 : ∀ c ∈ cs, ∀ x ∈ c, x ≠ 0) : breaksB (leftL cs lot) w = breaksB cs w := by
  unfold breaksB leftL
  rw [Bool.eq_iff_iff]
  constructor
  · intro h
    obtain ⟨d, hd, hb⟩ := List.any_eq_true.mp h
    obtain ⟨c, hc, rfl⟩ := List.mem_map.mp hd
    have hm := (List.mem_filter.mp hc).1
    rw [holds_cut hl (h0 c hm)] at hb
    exact List.any_eq_true.mpr ⟨c, hm, hb⟩
  · intro h
    obtain ⟨c, hc, hb⟩ := List.any_eq_true.mp h
    refine List.any_eq_true.mpr ⟨cutC lot c, List.mem_map.mpr ⟨c, List.mem_filter.mpr ⟨hc, ?_⟩, rfl⟩, by rw [holds_cut hl (h0 c hc)]; exact hb⟩
    cases q : (lot.any fun x => decide (x ∈ c)) with
    | false => rfl
    | true =>
      obtain ⟨x, hx, hxc⟩ := List.any_eq_true.mp q
      have : holdsB c w = true := List.any_eq_true.mpr ⟨x, of_decide_eq_true hxc, List.all_eq_true.mp hl x hx⟩
      rw [this] at hb; cases hb
theorem left_two {cs : List (List Int)} {lot more two : List Int} (hm : ∀ x, x ∈ two ↔ x ∈ lot ∨ x ∈ more) (hd : ∀ x ∈ more, -x ∉ lot) : leftL cs two = leftL (leftL cs lot) more := by
  unfold leftL
  rw [List.filter_map, List.map_map, List.filter_filter]
  have e1 : (cs.filter fun c => !(two.any fun x => decide (x ∈ c))) = cs.filter fun c => ((fun c => !(more.any fun x => decide (x ∈ c))) ∘ cutC lot) c && !(lot.any fun x => decide (x ∈ c)) := by
    refine List.filter_congr fun c _ => ?_
    show (!(two.any fun x => decide (x ∈ c))) = (!(more.any fun x => decide (x ∈ cutC lot c)) && !(lot.any fun x => decide (x ∈ c)))
    rw [← Bool.not_or]
    congr 1
    rw [Bool.eq_iff_iff, Bool.or_eq_true, List.any_eq_true, List.any_eq_true, List.any_eq_true]
    simp only [decide_eq_true_eq]
    constructor
    · rintro ⟨x, hx, hc⟩
      rcases (hm x).mp hx with q | q
      · exact .inr ⟨x, q, hc⟩
      · exact .inl ⟨x, q, List.mem_filter.mpr ⟨hc, by simp [hd x q]⟩⟩
    · rintro (⟨x, hx, hc⟩ | ⟨x, hx, hc⟩)
      · exact ⟨x, (hm x).mpr (.inr hx), (List.mem_filter.mp hc).1⟩
      · exact ⟨x, (hm x).mpr (.inl hx), hc⟩
  rw [e1]
  congr 1
  funext c
  show c.filter _ = (c.filter _).filter _
  rw [List.filter_filter]
  refine List.filter_congr fun x _ => ?_
  rw [Bool.eq_iff_iff]
  simp only [Bool.not_eq_true', decide_eq_false_iff_not, Bool.and_eq_true, hm (-x)]
  constructor
  · intro h; exact ⟨fun q => h (.inr q), fun q => h (.inl q)⟩
  · rintro ⟨h1, h2⟩ (q | q)
    · exact h2 q
    · exact h1 q
end Lb
set_option maxHeartbeats 2000000
namespace Lb
open PySem PySem.Spec L2 Vx
def sAbs (l : List Int) : List Int := l.mergeSort fun a b => decide (absI a ≤ absI b)
def sAbsP (l : List Int) : List Int := l.mergeSort fun p q => decide (absI p < absI q ∨ (absI p = absI q ∧ p ≤ q))
theorem mapO_ints {kf : D → Option D} {k : Int → D} (h : ∀ i, kf (.int i) = some (k i)) : ∀ l : List Int, mapO kf (l.map .int) = some (l.map k)
  | [] => rfl
  | a :: l => by
    show (kf (.int a)).bind _ = _
    rw [h a, Option.bind_some, mapO_ints h l]; rfl
theorem okKs_int (f : Int → Int) (l : List Int) : okKs (l.map fun i => .int (f i)) = true := by
  unfold okKs
  simp only [Bool.and_eq_true, Bool.or_eq_true, List.all_eq_true, List.mem_map, decide_eq_true_eq]
  refine ⟨⟨?_, .inr ?_⟩, ?_⟩
  · rintro _ ⟨a, _, rfl⟩ _ ⟨b, _, rfl⟩; rfl
  · rintro _ ⟨a, _, rfl⟩; rfl
  · rintro _ ⟨a, _, rfl⟩; simp [PyData.depth]
theorem okKs_pair (f g : Int → Int) (l : List Int) : okKs (l.map fun i => .tuple [.int (f i), .int (g i)]) = true := by
  unfold okKs
  simp only [Bool.and_eq_true, Bool.or_eq_true, List.all_eq_true, List.mem_map, decide_eq_true_eq]
  refine ⟨⟨?_, .inl ?_⟩, ?_⟩
  · rintro _ ⟨a, _, rfl⟩ _ ⟨b, _, rfl⟩; rfl
  · rintro _ ⟨a, _, rfl⟩; rfl
  · rintro _ ⟨a, _, rfl⟩; simp [PyData.depth, PyData.depthAll]
theorem srt_abs {l : List Int} (hz : l.length ≤ sizeLine) {d : D} (hd : itK d = some (l.map .int)) : fSrtK kAbs d = some (.fr (.list ((sAbs l).map .int))) := by
  unfold fSrtK
  rw [hd, Option.bind_some, mapO_ints (k := fun i => .int (absI i)) (fun i => rfl) l, Option.bind_some, okKs_int absI l, if_pos (by simpa using hz)]
  have : (sAbs l).map PyData.int = (l.map .int).mergeSort (PySem.W.dataLe false (kG kAbs)) := by
    unfold sAbs
    refine List.map_mergeSort fun a _ b _ => ?_
    have := congrFun (congrFun (PySem.W.dataLe_int absI) a) b
    rw [← this]; rfl
  rw [this]
theorem srt_absP {l : List Int} (hz : l.length ≤ sizeLine) {d : D} (hd : itK d = some (l.map .int)) : fSrtK kAbsP d = some (.fr (.list ((sAbsP l).map .int))) := by
  unfold fSrtK
  rw [hd, Option.bind_some, mapO_ints (k := fun i => .tuple [.int (absI i), .int i]) (fun i => rfl) l, Option.bind_some, (show okKs (l.map fun i => .tuple [.int (absI i), .int i]) = true from okKs_pair absI id l), if_pos (by simpa using hz)]
  have : (sAbsP l).map PyData.int = (l.map .int).mergeSort (PySem.W.dataLe false (kG kAbsP)) := by
    unfold sAbsP
    refine List.map_mergeSort fun a _ b _ => ?_
    have := congrFun (congrFun (PySem.W.dataLe_ii absI id) a) b
    have this := this.symm
    simp only [id] at this
    exact this
  rw [this]
/-- where no two have one abs, both orders are one -/
theorem sAbs_up {l : List Int} (h : l.Pairwise fun a b => absI a ≠ absI b) : (sAbs l).Pairwise (fun a b => absI a < absI b) ∧ (sAbs l).Perm l := by
  have p : (sAbs l).Perm l := List.mergeSort_perm _ _
  refine ⟨?_, p⟩
  have s : (sAbs l).Pairwise fun a b => decide (absI a ≤ absI b) = true := List.pairwise_mergeSort (fun a b c h1 h2 => by simp only [decide_eq_true_eq] at *; omega) (fun a b => by simp only [Bool.or_eq_true, decide_eq_true_eq]; omega) l
  have d : (sAbs l).Pairwise fun a b => absI a ≠ absI b := (p.pairwise_iff (fun h => h.symm)).mpr h
  exact (s.and d).imp fun ⟨h1, h2⟩ => by have := of_decide_eq_true h1; omega
theorem sAbsP_up {l : List Int} (h : l.Pairwise fun a b => absI a ≠ absI b) : (sAbsP l).Pairwise (fun a b => absI a < absI b) ∧ (sAbsP l).Perm l := by
  have p : (sAbsP l).Perm l := List.mergeSort_perm _ _
  refine ⟨?_, p⟩
  have s : (sAbsP l).Pairwise fun a b => decide (absI a < absI b ∨ (absI a = absI b ∧ a ≤ b)) = true := List.pairwise_mergeSort (fun a b c h1 h2 => by simp only [decide_eq_true_eq] at *; omega) (fun a b => by simp only [Bool.or_eq_true, decide_eq_true_eq]; omega) l
  have d : (sAbsP l).Pairwise fun a b => absI a ≠ absI b := (p.pairwise_iff (fun h => h.symm)).mpr h
  exact (s.and d).imp fun ⟨h1, h2⟩ => by have := of_decide_eq_true h1; omega
theorem sAbs_eq {l : List Int} (h : l.Pairwise fun a b => absI a ≠ absI b) : sAbsP l = sAbs l := by
  obtain ⟨u1, p1⟩ := sAbsP_up h
  obtain ⟨u2, p2⟩ := sAbs_up h
  exact up_ext u1 u2 (fun x hx => p2.mem_iff.mpr (p1.mem_iff.mp hx)) fun x hx => p1.mem_iff.mpr (p2.mem_iff.mp hx)
end Lb
set_option maxHeartbeats 2000000
namespace Lb
open PySem PySem.Spec L2 Vx
theorem putD_new {acc : List Int} {i : Int} (h : i ∉ acc) (y : D) : putD (acc.map fun i => (PyData.int i, y)) (.inl i) y = (acc ++ [i]).map fun i => (PyData.int i, y) := by
  unfold putD
  rw [if_neg, List.map_append]
  · rfl
  · intro q
    obtain ⟨p, hp, he⟩ := List.any_eq_true.mp q
    obtain ⟨j, hj, rfl⟩ := List.mem_map.mp hp
    have : j = i := of_decide_eq_true he
    exact h (this ▸ hj)
theorem dcI_int {v : Nat} {ke e : M Op} {ρ1 : Ev} (k : Int → Int) (y : D) (hw : wipable ρ1[v]? = true) : ∀ (l acc : List Int) (ρ : Ev), unS ρ [v] = unS ρ1 [v] → acc.length + l.length ≤ sizeLine → (acc ++ l.map k).Nodup →
    (∀ a ∈ l, mK ke (ρ1.set v (.cl (.int a))) = .ok (.int (k a)) (ρ1.set v (.cl (.int a))) ∧ mK e (ρ1.set v (.cl (.int a))) = .ok y (ρ1.set v (.cl (.int a)))) →
    ∃ ρ', dcI (tName v) tYesM ke e [v] (l.map .int) (acc.map fun i => (PyData.int i, y)) ρ = .ok ((acc ++ l.map k).map fun i => (PyData.int i, y)) ρ' ∧ unS ρ' [v] = unS ρ1 [v]
  | [], acc, ρ, hu, _, _, _ => ⟨ρ, by rw [List.map_nil]; unfold dcI; simp, hu⟩
  | a :: l, acc, ρ, hu, hz, hn, h => by
    obtain ⟨h1, h2⟩ := h a List.mem_cons_self
    rw [List.map_cons]
    unfold dcI
    rw [hu, (set1 hw).1]
    dsimp only
    rw [ev_Yes]
    dsimp only
    rw [h1]
    dsimp only
    rw [h2]
    dsimp only
    have kd : keyD (.int (k a)) = some (.inl (k a)) := rfl
    rw [kd]
    dsimp only
    have hz : acc.length + (l.length + 1) ≤ sizeLine := hz
    rw [List.length_map, if_pos (by omega)]
    have nk : k a ∉ acc := fun q => by
      have := (List.nodup_append.mp hn).2.2 _ q (k a) List.mem_cons_self
      exact this rfl
    rw [putD_new nk]
    obtain ⟨ρ', q1, q2⟩ := dcI_int (v := v) (ke := ke) (e := e) k y hw l (acc ++ [k a]) (ρ1.set v (.cl (.int a))) (set1 hw).2 (by rw [List.length_append]; exact (by simp; omega)) (by rw [List.append_assoc]; exact hn) fun x hx => h x (List.mem_cons_of_mem _ hx)
    refine ⟨ρ', ?_, q2⟩
    rw [q1, List.append_assoc]; rfl
theorem mDc_int {it : M (List D)} {v : Nat} {ke e : M Op} {ρ ρ1 : Ev} {l : List Int} (k : Int → Int) (y : D) (hi : it ρ = .ok (l.map .int) ρ1) (hw : wipable ρ1[v]? = true) (hz : l.length ≤ sizeLine) (hn : (l.map k).Nodup)
    (h : ∀ a ∈ l, mK ke (ρ1.set v (.cl (.int a))) = .ok (.int (k a)) (ρ1.set v (.cl (.int a))) ∧ mK e (ρ1.set v (.cl (.int a))) = .ok y (ρ1.set v (.cl (.int a)))) :
    mDc it (tName v) tYesM ke e [v] ρ = .ok (.fr (.dict ((l.map k).map fun i => (PyData.int i, y)))) ρ1 := by
  obtain ⟨ρ', q1, q2⟩ := dcI_int (v := v) (ke := ke) (e := e) k y hw l [] ρ1 rfl (by simpa using hz) (by simpa using hn) h
  unfold mDc
  rw [hi, Rs.bind_ok, if_pos (by simp [hw])]
  have q1 : dcI (tName v) tYesM ke e [v] (l.map .int) [] ρ1 = .ok ((l.map k).map fun i => (PyData.int i, y)) ρ' := q1
  rw [q1]
  dsimp only
  rw [bkS_same q2]
theorem itK_keys (l : List Int) (y : D) : itK (.dict (l.map fun i => (PyData.int i, y))) = some (l.map .int) := by
  show some _ = some _
  rw [List.map_map]; rfl
theorem zip_tail_up' {c : List Int} (h : c.Pairwise fun a b => absI a < absI b) : ((c.zip c.tail).any fun q => decide (absI q.1 = absI q.2)) = false := by
  rw [List.any_eq_false]
  intro q hq e
  have := List.all_eq_true.mp (zip_tail_up h) q hq
  have h1 := of_decide_eq_true this
  have h2 := of_decide_eq_true e
  omega
theorem joined {l : List Int} (hz : l.length ≤ 100) (h : l.Pairwise fun a b => absI a ≠ absI b) : g_joined [.list (l.map .int)] = .ok false (encI (sAbs l)) [] := by
  have hs : l.length ≤ sizeLine := Nat.le_trans hz (by decide)
  have hn : l.Nodup := h.imp fun q e => q (by rw [e])
  have d1 : mDc (iSeqM (mV 0)) (tName 2) tYesM m_joined_2 m_joined_3 [2] [.bo (.list (l.map .int)), .un, .un, .un] = .ok (.fr (.dict ((l.map id).map fun i => (PyData.int i, PyData.bool true)))) [.bo (.list (l.map .int)), .un, .un, .un] :=
    mDc_int id _ (by simp -implicitDefEqProofs) rfl hs (by simpa using hn) fun a _ => ⟨by simp -implicitDefEqProofs [m_joined_2], by simp -implicitDefEqProofs [m_joined_3]⟩
  rw [List.map_id] at d1
  have s1 := srt_absP hs (itK_keys l (.bool true))
  rw [sAbs_eq h] at s1
  obtain ⟨u, p⟩ := sAbs_up h
  have zl : (sAbs l).length ≤ 100 := by rw [p.length_eq]; exact hz
  generalize sAbs l = t at *
  have ct : cutD (t.map PyData.int) (some 1) none = (t.tail).map .int := by
    have := cut_from (t.map PyData.int) 1
    rw [← List.map_drop, List.drop_one] at this
    exact this
  have zz := zip_enc PyData.int PyData.int t t.tail
  have c1 : mLc (iFnK zp (kiCons (mV 1) (kiCons (mSl fSl (mV 1) (bAt (mC (.int 1))) bNo) kiNil))) (Vx.tTup (tsCons (tName 2) (tsCons (tName 3) tsNil))) tYesM m_joined_1 [2, 3] [.bo (.list (l.map .int)), .ow (.list (t.map .int)), .un, .un] = .ok (.fr (.list ((t.zip t.tail).map fun q => .bool (decide (absI q.1 = absI q.2))))) [.bo (.list (l.map .int)), .cl (.list (t.map .int)), .un, .un] :=
    mLc_enc2M .int .int _ (by rw [← zz]; simp -implicitDefEqProofs [ct]) (by decide) rfl rfl (by rw [List.length_zip]; exact Nat.le_trans (show _ ≤ 100 by omega) (by decide)) fun q _ => by simp -implicitDefEqProofs [m_joined_1]
  have a1 := fAny_map (fun q : Int × Int => decide (absI q.1 = absI q.2)) (t.zip t.tail)
  rw [zip_tail_up' u] at a1
  simp -implicitDefEqProofs [g_joined, runD, m_joined, d1, s1, c1, a1]
end Lb
set_option maxHeartbeats 2000000
namespace Lb
open PySem PySem.Spec L2 Vx
theorem law_joined {l : List Int} (hz : l.length ≤ 100) (h : l.Pairwise fun a b => absI a ≠ absI b) (h0 : ∀ x ∈ l, x ≠ 0) : g__law_joined [.list (l.map .int)] = .ok false (encI (sAbs l)) [] := by
  have hs : l.length ≤ sizeLine := Nat.le_trans hz (by decide)
  have s1 := srt_abs hs (d := .list (l.map .int)) rfl
  obtain ⟨u, p⟩ := sAbs_up h
  have zl : (sAbs l).length ≤ 100 := by rw [p.length_eq]; exact hz
  have t0 : ∀ x ∈ sAbs l, x ≠ 0 := fun x hx => h0 x (p.mem_iff.mp hx)
  generalize sAbs l = t at *
  let P : Nat → Ev → Prop := fun i ρ => ∃ s2, ρ = [.bo (.list (l.map .int)), .ow (.list ((t.take i).map .int)), s2] ∧ free (some s2) = true
  obtain ⟨ρ', e, s2, eρ, _⟩ := forI_inv (t := tName 2) (b := m__law_joined_1) (P := P) (t.map .int) 0 [.bo (.list (l.map .int)), .ow (.list []), .un] ⟨.un, by simp, rfl⟩ fun i d ρ hd hp => by
    obtain ⟨s2, eρ, hs2⟩ := hp
    rw [Nat.zero_add] at eρ ⊢
    subst eρ
    rw [List.getElem?_map] at hd
    cases hci : t[i]? with
    | none => rw [hci] at hd; cases hd
    | some x =>
      rw [hci] at hd
      have hd : PyData.int x = d := Option.some.inj hd
      subst hd
      have ht : t.take (i + 1) = t.take i ++ [x] := by rw [List.take_add_one, hci]; rfl
      have up : ∀ y ∈ t.take i, absI y < absI x := fun y hy => by
        have hsub : (t.take i ++ [x]).Sublist t := by rw [← ht]; exact List.take_sublist _ _
        exact (List.pairwise_append.mp (u.sublist hsub)).2.2 y hy x (List.mem_singleton.mpr rfl)
      have la : (t.take i).length + 1 ≤ sizeLine := by
        rw [List.length_take]
        exact Nat.le_trans (show _ ≤ 101 by omega) (by decide)
      have n1 : -x ∉ t.take i := fun m => by have := up _ m; rw [absI_neg] at this; omega
      have n2 : x ∉ t.take i := fun m => by have := up _ m; omega
      generalize hacc : t.take i = acc at la n1 n2 ht
      have f1' := fIn_IL (-x) acc
      have f2 := fNotIn_IL x acc
      refine ⟨[.bo (.list (l.map .int)), .ow (.list (acc.map .int)), .cl (.int x)], [.bo (.list (l.map .int)), .ow (.list ((acc ++ [x]).map .int)), .cl (.int x)], by simp [hs2], .inl ?_, .cl (.int x), by rw [ht], rfl⟩
      simp -implicitDefEqProofs [m__law_joined_1, f1', f2, n1, n2, one_size, fRep_1, la]
  rw [Nat.zero_add, List.length_map, List.take_length] at eρ
  subst eρ
  simp -implicitDefEqProofs [g__law_joined, runD, m__law_joined, s1, e]
/-- the row's literal that stands for a literal -/
def rowL (row : List Int) (x : Int) : Int := if 0 < x then row.getD (absI x - 1).toNat 0 else -row.getD (absI x - 1).toNat 0
def turnL (row : List Int) (cs : List (List Int)) : List (List Int) := cs.map fun c => sAbs (c.map (rowL row))
structure RowOk (row : List Int) : Prop where
  atoms : ∀ x ∈ row, -12 ≤ x ∧ x ≤ 12 ∧ x ≠ 0
  diff : row.Pairwise fun a b => absI a ≠ absI b
theorem RowOk.len {row : List Int} (h : RowOk row) : row.length ≤ 12 := by
  have n : (row.map absI).Nodup := List.pairwise_map.mpr h.diff
  obtain ⟨u, p⟩ := sAbs_up h.diff
  rw [← p.length_eq]
  have := up_len (c := sAbs row) 0 (fun x hx => by
    obtain ⟨h1, h2, h3⟩ := h.atoms x (p.mem_iff.mp hx)
    unfold absI; split <;> omega) u (by decide)
  omega
theorem is_names {row : List Int} (h : RowOk row) : g_is_names [encI row, .int (row.length : Nat)] = .ok false (.bool true) [] := by
  have hl := h.len
  have hs : row.length ≤ sizeLine := Nat.le_trans hl (by decide)
  have c1 : mLc (iSeqM (mV 0)) (tName 2) tYesM m_is_names_3 [2] [.cl (encI row), .cl (.int (row.length : Nat)), .un] = .ok (.fr (.list (row.map fun _ => .bool true))) [.cl (encI row), .cl (.int (row.length : Nat)), .un] :=
    mLc_encM .int _ (by simp -implicitDefEqProofs) rfl hs fun x hx => by
      obtain ⟨h1, h2, h3⟩ := h.atoms x hx
      have e := is_within x (-12) 12
      rw [decide_eq_true h1, decide_eq_true h2] at e
      simp -implicitDefEqProofs [m_is_names_3, neg12, e, h3]
  have a1 := fAll_map (fun _ : Int => true) row
  rw [List.all_eq_true.mpr fun _ _ => rfl] at a1
  have d1 : mDc (iSeqM (mV 0)) (tName 2) tYesM m_is_names_1 m_is_names_2 [2] [.cl (encI row), .cl (.int (row.length : Nat)), .un] = .ok (.fr (.dict ((row.map absI).map fun i => (PyData.int i, PyData.bool true)))) [.cl (encI row), .cl (.int (row.length : Nat)), .un] :=
    mDc_int absI _ (by simp -implicitDefEqProofs) rfl hs (List.pairwise_map.mpr h.diff) fun a _ => ⟨by simp -implicitDefEqProofs [m_is_names_1], by simp -implicitDefEqProofs [m_is_names_2]⟩
  have fl : fLen (.dict ((row.map absI).map fun i => (PyData.int i, PyData.bool true))) = some (.val (.int (row.length : Nat))) := by
    show some (Op.val (.int _)) = _
    simp
  generalize (row.map absI).map (fun i => (PyData.int i, PyData.bool true)) = kd at d1 fl
  simp -implicitDefEqProofs [g_is_names, runD, m_is_names, c1, a1, d1, fl]
theorem getD_at {row : List Int} {k : Nat} (h : k < row.length) : row[k]? = some (row.getD k 0) := by
  rw [List.getD_eq_getElem?_getD, List.getElem?_eq_getElem h]; rfl
theorem rowL_abs {row : List Int} {x : Int} : absI (rowL row x) = absI (row.getD (absI x - 1).toNat 0) := by
  unfold rowL
  split
  · rfl
  · exact absI_neg _
theorem rowL_ok {row : List Int} (h : RowOk row) {x : Int} (h0 : x ≠ 0) (h1 : absI x ≤ row.length) : rowL row x ∈ row ∨ -rowL row x ∈ row := by
  have hk : (absI x - 1).toNat < row.length := by unfold absI at *; split at h1 <;> split <;> omega
  have m : row.getD (absI x - 1).toNat 0 ∈ row := List.mem_of_getElem? (getD_at hk)
  unfold rowL
  split
  · exact .inl m
  · right; rwa [Int.neg_neg]
theorem rowL_diff {row : List Int} (h : RowOk row) {x y : Int} (hx0 : x ≠ 0) (hx : absI x ≤ row.length) (hy0 : y ≠ 0) (hy : absI y ≤ row.length) (ne : absI x ≠ absI y) : absI (rowL row x) ≠ absI (rowL row y) := by
  rw [rowL_abs, rowL_abs]
  have hxp : 1 ≤ absI x := by unfold absI; split <;> omega
  have hyp : 1 ≤ absI y := by unfold absI; split <;> omega
  have kx : (absI x - 1).toNat < row.length := by omega
  have ky : (absI y - 1).toNat < row.length := by omega
  have e1 : row.getD (absI x - 1).toNat 0 = row[(absI x - 1).toNat] := by rw [List.getD_eq_getElem?_getD, List.getElem?_eq_getElem kx]; rfl
  have e2 : row.getD (absI y - 1).toNat 0 = row[(absI y - 1).toNat] := by rw [List.getD_eq_getElem?_getD, List.getElem?_eq_getElem ky]; rfl
  rw [e1, e2]
  have q := List.pairwise_iff_getElem.mp h.diff
  rcases Nat.lt_trichotomy (absI x - 1).toNat (absI y - 1).toNat with l | l | l
  · exact q _ _ kx ky l
  · omega
  · exact (q _ _ ky kx l).symm
theorem row_clause {row c : List Int} (h : RowOk row) (hc : ClOk c) (hl : ∀ x ∈ c, absI x ≤ row.length) : (c.map (rowL row)).Pairwise (fun a b => absI a ≠ absI b) ∧ ∀ x ∈ c.map (rowL row), -12 ≤ x ∧ x ≤ 12 ∧ x ≠ 0 := by
  constructor
  · rw [List.pairwise_map]
    refine List.Pairwise.imp_of_mem (fun {a b} ha hb q => ?_) hc.up
    exact rowL_diff h (hc.atoms a ha).2.2 (hl a ha) (hc.atoms b hb).2.2 (hl b hb) (by omega)
  · intro y hy
    obtain ⟨x, hx, rfl⟩ := List.mem_map.mp hy
    rcases rowL_ok h (hc.atoms x hx).2.2 (hl x hx) with m | m
    · exact h.atoms _ m
    · obtain ⟨h1, h2, h3⟩ := h.atoms _ m
      omega
theorem turn_clause {row c : List Int} (h : RowOk row) (hc : ClOk c) (hl : ∀ x ∈ c, absI x ≤ row.length) : ClOk (sAbs (c.map (rowL row))) := by
  obtain ⟨h1, h2⟩ := row_clause h hc hl
  obtain ⟨u, p⟩ := sAbs_up h1
  exact ⟨fun x hx => h2 x (p.mem_iff.mp hx), u⟩
theorem CsOk.turn {row : List Int} {cs : List (List Int)} (h : RowOk row) (hc : CsOk cs) (hl : ∀ c ∈ cs, ∀ x ∈ c, absI x ≤ row.length) : CsOk (turnL row cs) := by
  refine ⟨by unfold turnL; rw [List.length_map]; exact hc.many, fun d hd => ?_⟩
  obtain ⟨c, hcm, rfl⟩ := List.mem_map.mp hd
  exact turn_clause h (hc.ok c hcm) (hl c hcm)
theorem rowIx {row : List Int} {k : Int} (h1 : 0 ≤ k) (h2 : k < row.length) : fIx (encI row) (.int k) = some (.val (.int (row.getD k.toNat 0))) := by
  have hk : k.toNat < row.length := by omega
  have := getD_at hk
  show (atI (row.map PyData.int) k).map _ = _
  rw [atI_pos _ h1, List.getElem?_map, this]; rfl
theorem turned_atoms {cs : List (List Int)} {row : List Int} (h : CsOk cs) (hr : RowOk row) (hm : manyI cs = row.length) : g_turned_atoms [encC cs, encI row] = .ok false (encC (turnL row cs)) [] := by
  have hl : ∀ c ∈ cs, ∀ x ∈ c, absI x ≤ row.length := fun c hc x hx => by have := many_le hc hx; omega
  have hl2 : ∀ c ∈ cs, c.length ≤ 100 := fun c hc => Nat.le_trans (h.ok c hc).len (by decide)
  have e0 := check_ok h.many h.ok
  have e1 := many_in (Nat.le_trans h.many (by decide)) hl2
  rw [many_eq fun c hc => (h.ok c hc).up, hm] at e1
  have e2 := is_names hr
  have h80 := h.many
  let P : Nat → Ev → Prop := fun i ρ => ∃ s3, ρ = [.cl (encC cs), .cl (encI row), .ow (.list ((turnL row (cs.take i)).map encI)), s3, .un] ∧ free (some s3) = true
  obtain ⟨ρ', e, s3, eρ, _⟩ := forI_inv (t := tName 3) (b := m_turned_atoms_2) (P := P) (cs.map encI) 0 [.cl (encC cs), .cl (encI row), .ow (.list []), .un, .un] ⟨.un, by simp [turnL], rfl⟩ fun i d ρ hd hp => by
    obtain ⟨s3, eρ, hs3⟩ := hp
    rw [Nat.zero_add] at eρ ⊢
    subst eρ
    rw [List.getElem?_map] at hd
    cases hci : cs[i]? with
    | none => rw [hci] at hd; cases hd
    | some c =>
      rw [hci] at hd
      have hd : encI c = d := Option.some.inj hd
      subst hd
      have hcm : c ∈ cs := List.mem_of_getElem? hci
      have fe : turnL row (cs.take (i + 1)) = turnL row (cs.take i) ++ [sAbs (c.map (rowL row))] := by
        unfold turnL
        rw [List.take_add_one, hci, List.map_append]; rfl
      have hacc : (turnL row (cs.take i)).length < sizeLine := by
        unfold turnL
        rw [List.length_map, List.length_take]
        exact Nat.lt_of_le_of_lt (show _ ≤ 80 by omega) (by decide)
      generalize turnL row (cs.take i) = acc at hacc fe ⊢
      have c1 : mLc (iSeqM (mV 3)) (tName 4) tYesM m_turned_atoms_1 [4] [.cl (encC cs), .cl (encI row), .ow (.list (acc.map encI)), .cl (encI c), .un] = .ok (.fr (.list (c.map fun x => .int (rowL row x)))) [.cl (encC cs), .cl (encI row), .ow (.list (acc.map encI)), .cl (encI c), .un] :=
        mLc_encM .int _ (by simp -implicitDefEqProofs) rfl (h.ok c hcm).size fun x hx => by
          have hx0 := ((h.ok c hcm).atoms x hx).2.2
          have hxl := hl c hcm x hx
          by_cases p : 0 < x
          · have ea : absI x = x := by unfold absI; split <;> omega
            rw [ea] at hxl
            have ix := rowIx (row := row) (k := x - 1) (by omega) (by omega)
            simp -implicitDefEqProofs [m_turned_atoms_1, p, ix, rowL, ea]
          · have ea : absI x = -x := by unfold absI; split <;> omega
            rw [ea] at hxl
            have ix := rowIx (row := row) (k := -x - 1) (by omega) (by omega)
            simp -implicitDefEqProofs [m_turned_atoms_1, p, ix, rowL, ea]
      have hm2 : (c.map fun x => PyData.int (rowL row x)) = (c.map (rowL row)).map .int := by rw [List.map_map]; rfl
      rw [hm2] at c1
      have ej := joined (l := c.map (rowL row)) (by rw [List.length_map]; exact hl2 c hcm) (row_clause hr (h.ok c hcm) (hl c hcm)).1
      generalize c.map (rowL row) = cl at c1 ej fe
      refine ⟨[.cl (encC cs), .cl (encI row), .ow (.list (acc.map encI)), .cl (encI c), .un], [.cl (encC cs), .cl (encI row), .ow (.list ((acc ++ [sAbs cl]).map encI)), .cl (encI c), .un], by simp [hs3], .inl ?_, .cl (encI c), by rw [fe], rfl⟩
      simp -implicitDefEqProofs [m_turned_atoms_2, c1, ej, hacc]
  rw [Nat.zero_add, List.length_map, List.take_length] at eρ
  subst eρ
  simp -implicitDefEqProofs [g_turned_atoms, runD, m_turned_atoms, e0, e1, e2, e, truD_bool]
end Lb
set_option maxHeartbeats 2000000
namespace Lb
open PySem PySem.Spec L2 Vx
section
variable {S α β : Type} (E : S → Ev) (R : Nat → S → Prop) (G : α → β → Prop) (ea : α → D) (eb : β → D) {v : Nat} {tt : M Bool} {e : M Op} {it : M (List D)}
theorem lcI_st {x0 : Sl} (hx0 : wipable (some x0) = true) (hv : ∀ s, (E s)[v]? = some x0) : ∀ (l : List α) (acc : List D) (s : S) (ρ : Ev), unS ρ [v] = unS (E s) [v] → acc.length + l.length ≤ sizeLine → R l.length s →
    (∀ a ∈ l, ∀ m s, R (m + 1) s → ∃ s', R m s' ∧ ((∃ ρ2 z, tt ((E s).set v (.cl (ea a))) = .ok true ρ2 ∧ mK e ρ2 = .ok (eb z) ((E s').set v (.cl (ea a))) ∧ G a z) ∨ tt ((E s).set v (.cl (ea a))) = .ok false ((E s').set v (.cl (ea a))))) →
    ∃ zs sub s' ρ', lcI (tName v) tt e [v] (l.map ea) acc ρ = .ok (acc ++ zs.map eb) ρ' ∧ unS ρ' [v] = unS (E s') [v] ∧ sub.Sublist l ∧ PySem.W.EachIs G sub zs ∧ R 0 s'
  | [], acc, s, ρ, hu, _, hR, _ => ⟨[], [], s, ρ, by rw [List.map_nil]; unfold lcI; simp, hu, .slnil, .nil, hR⟩
  | a :: l, acc, s, ρ, hu, hz, hR, h => by
    have wp : ∀ s, wipable (E s)[v]? = true := fun s => by rw [hv s]; exact hx0
    have us : ∀ (s : S) (d : D), unS ((E s).set v (.cl d)) [v] = unS (E s) [v] := fun s d => (set1 (wp s)).2
    obtain ⟨s', r', hs⟩ := h a List.mem_cons_self l.length s hR
    have hr := fun x hx => h x (List.mem_cons_of_mem _ hx)
    have hz : acc.length + (l.length + 1) ≤ sizeLine := hz
    have t1 : tName v (ea a) (unS ρ [v]) = some ((E s).set v (.cl (ea a))) := by
      rw [hu]
      exact (set1 (v := v) (d := ea a) (wp s)).1
    rw [List.map_cons]
    unfold lcI
    rw [t1]
    dsimp only
    rcases hs with ⟨ρ2, z, e1, e2, g⟩ | e1
    · rw [e1]
      dsimp only
      rw [e2]
      dsimp only
      rw [if_pos (by omega)]
      obtain ⟨zs, sub, s2, ρ', q1, q2, q3, q4, q5⟩ := lcI_st hx0 hv l (acc ++ [eb z]) s' _ (us s' (ea a)) (by simp; omega) r' hr
      refine ⟨z :: zs, a :: sub, s2, ρ', ?_, q2, q3.cons₂ a, .cons g q4, q5⟩
      rw [q1, List.append_assoc]; rfl
    · rw [e1]
      dsimp only
      obtain ⟨zs, sub, s2, ρ', q1, q2, q3, q4, q5⟩ := lcI_st hx0 hv l acc s' _ (us s' (ea a)) (by omega) r' hr
      exact ⟨zs, sub, s2, ρ', q1, q2, q3.cons a, q4, q5⟩
theorem mLc_stx {ρ : Ev} {s : S} {l : List α} {x0 : Sl} (hx0 : wipable (some x0) = true) (hv : ∀ s, (E s)[v]? = some x0) (hi : it ρ = .ok (l.map ea) (E s)) (hz : l.length ≤ sizeLine) (hR : R l.length s)
    (h : ∀ a ∈ l, ∀ m s, R (m + 1) s → ∃ s', R m s' ∧ ((∃ ρ2 z, tt ((E s).set v (.cl (ea a))) = .ok true ρ2 ∧ mK e ρ2 = .ok (eb z) ((E s').set v (.cl (ea a))) ∧ G a z) ∨ tt ((E s).set v (.cl (ea a))) = .ok false ((E s').set v (.cl (ea a))))) :
    ∃ zs sub s', mLc it (tName v) tt e [v] ρ = .ok (.fr (.list (zs.map eb))) (E s') ∧ sub.Sublist l ∧ PySem.W.EachIs G sub zs ∧ R 0 s' := by
  obtain ⟨zs, sub, s', ρ', q1, q2, q3, q4, q5⟩ := lcI_st E R G ea eb hx0 hv l [] s (E s) rfl (by simpa using hz) hR h
  refine ⟨zs, sub, s', ?_, q3, q4, q5⟩
  unfold mLc
  rw [hi, Rs.bind_ok, if_pos (by simp [hv s, hx0]), q1]
  dsimp only
  rw [List.nil_append]
  have : bkS (E s) ρ' [v] = E s' := by
    show ρ'.set v ((E s)[v]?.getD .un) = E s'
    rw [hv s]
    have q2 : ρ'.set v .un = (E s').set v .un := q2
    have he : (E s')[v]'(List.getElem?_eq_some_iff.mp (hv s')).1 = x0 := (List.getElem?_eq_some_iff.mp (hv s')).2
    have : (ρ'.set v .un).set v x0 = ((E s').set v .un).set v x0 := by rw [q2]
    rw [List.set_set, List.set_set] at this
    show ρ'.set v x0 = _
    rw [this, ← he, List.set_getElem_self]
  rw [this]
theorem mLc_st {ρ : Ev} {s : S} {l : List α} (hv : ∀ s, (E s)[v]? = some .un) (hi : it ρ = .ok (l.map ea) (E s)) (hz : l.length ≤ sizeLine) (hR : R l.length s)
    (h : ∀ a ∈ l, ∀ m s, R (m + 1) s → ∃ s', R m s' ∧ ((∃ ρ2 z, tt ((E s).set v (.cl (ea a))) = .ok true ρ2 ∧ mK e ρ2 = .ok (eb z) ((E s').set v (.cl (ea a))) ∧ G a z) ∨ tt ((E s).set v (.cl (ea a))) = .ok false ((E s').set v (.cl (ea a))))) :
    ∃ zs sub s', mLc it (tName v) tt e [v] ρ = .ok (.fr (.list (zs.map eb))) (E s') ∧ sub.Sublist l ∧ PySem.W.EachIs G sub zs ∧ R 0 s' := mLc_stx E R G ea eb rfl hv hi hz hR h
theorem lcI_stM {x0 : Sl} (hx0 : wipable (some x0) = true) (hv : ∀ s, (E s)[v]? = some x0) : ∀ (l : List α) (acc : List D) (s : S) (ρ : Ev), unS ρ [v] = unS (E s) [v] → acc.length + l.length ≤ sizeLine → R l.length s →
    (∀ a ∈ l, ∀ m s, R (m + 1) s → ∃ s' z, R m s' ∧ mK e ((E s).set v (.cl (ea a))) = .ok (eb z) ((E s').set v (.cl (ea a))) ∧ G a z) →
    ∃ zs s' ρ', lcI (tName v) tYesM e [v] (l.map ea) acc ρ = .ok (acc ++ zs.map eb) ρ' ∧ unS ρ' [v] = unS (E s') [v] ∧ PySem.W.EachIs G l zs ∧ R 0 s'
  | [], acc, s, ρ, hu, _, hR, _ => ⟨[], s, ρ, by rw [List.map_nil]; unfold lcI; simp, hu, .nil, hR⟩
  | a :: l, acc, s, ρ, hu, hz, hR, h => by
    have wp : ∀ s, wipable (E s)[v]? = true := fun s => by rw [hv s]; exact hx0
    obtain ⟨s', z, r', e2, g⟩ := h a List.mem_cons_self l.length s hR
    have hr := fun x hx => h x (List.mem_cons_of_mem _ hx)
    have hz : acc.length + (l.length + 1) ≤ sizeLine := hz
    have t1 : tName v (ea a) (unS ρ [v]) = some ((E s).set v (.cl (ea a))) := by
      rw [hu]
      exact (set1 (v := v) (d := ea a) (wp s)).1
    rw [List.map_cons]
    unfold lcI
    rw [t1]
    dsimp only
    rw [ev_Yes]
    dsimp only
    rw [e2]
    dsimp only
    rw [if_pos (by omega)]
    obtain ⟨zs, s2, ρ', q1, q2, q4, q5⟩ := lcI_stM hx0 hv l (acc ++ [eb z]) s' _ (set1 (wp s')).2 (by simp; omega) r' hr
    refine ⟨z :: zs, s2, ρ', ?_, q2, .cons g q4, q5⟩
    rw [q1, List.append_assoc]; rfl
theorem mLc_stM {ρ : Ev} {s : S} {l : List α} {x0 : Sl} (hx0 : wipable (some x0) = true) (hv : ∀ s, (E s)[v]? = some x0) (hi : it ρ = .ok (l.map ea) (E s)) (hz : l.length ≤ sizeLine) (hR : R l.length s)
    (h : ∀ a ∈ l, ∀ m s, R (m + 1) s → ∃ s' z, R m s' ∧ mK e ((E s).set v (.cl (ea a))) = .ok (eb z) ((E s').set v (.cl (ea a))) ∧ G a z) :
    ∃ zs s', mLc it (tName v) tYesM e [v] ρ = .ok (.fr (.list (zs.map eb))) (E s') ∧ PySem.W.EachIs G l zs ∧ R 0 s' := by
  obtain ⟨zs, s', ρ', q1, q2, q4, q5⟩ := lcI_stM E R G ea eb hx0 hv l [] s (E s) rfl (by simpa using hz) hR h
  refine ⟨zs, s', ?_, q4, q5⟩
  unfold mLc
  rw [hi, Rs.bind_ok, if_pos (by simp [hv s, hx0]), q1]
  dsimp only
  rw [List.nil_append]
  have : bkS (E s) ρ' [v] = E s' := by
    show ρ'.set v ((E s)[v]?.getD .un) = E s'
    rw [hv s]
    have q2 : ρ'.set v .un = (E s').set v .un := q2
    have he : (E s')[v]'(List.getElem?_eq_some_iff.mp (hv s')).1 = x0 := (List.getElem?_eq_some_iff.mp (hv s')).2
    have : (ρ'.set v .un).set v x0 = ((E s').set v .un).set v x0 := by rw [q2]
    rw [List.set_set, List.set_set] at this
    show ρ'.set v x0 = _
    rw [this, ← he, List.set_getElem_self]
  rw [this]
end
end Lb
set_option maxHeartbeats 2000000
namespace Lb
open PySem PySem.Spec L2 Vx
def m__law_clause_1 : M Op :=
    (m2 fMul (mCall g__law_any [.mu, .pl] (aCons (mV 0) (aCons (mLst (kCons (mC (.int 1)) (kCons (m1 fNeg (mC (.int 1))) kNil))) aNil))) (mV 4))
def m__law_clause : M Fl :=
    (sSeq (sSet 3 (mB (f1 fSorted) (aCons (mSl fSl (mCall g__law_mixed [.mu, .pl] (aCons (mV 0) (aCons (mRg (mC (.int 1)) (m2 fAdd (mV 1) (mC (.int 1)))) aNil))) bNo (bAt (mCall g__law_draw [.mu, .pl] (aCons (mV 0) (aCons (m2 fAdd (mV 2) (mC (.int 1))) aNil))))) aNil)))
    (sRet (mB (f1 fTuple) (aCons (mLc (iSeqM (mV 3)) (tName 4) tYesM m__law_clause_1 [4]) aNil))))
def g__law_clause : List D → FR := runD [.mu, .pl, .pl] 2 m__law_clause
theorem perm_ints {es : List D} {l : List Int} (h : es.Perm (l.map .int)) : ∃ t : List Int, es = t.map .int ∧ t.Perm l := by
  let u : D → Int := fun d => match d with | .int i => i | _ => 0
  refine ⟨es.map u, ?_, ?_⟩
  · rw [List.map_map]
    have : ∀ d ∈ es, (PyData.int ∘ u) d = d := fun d hd => by
      obtain ⟨i, _, rfl⟩ := List.mem_map.mp (h.mem_iff.mp hd)
      rfl
    rw [List.map_congr_left this, List.map_id']
  · have := h.map u
    rw [List.map_map] at this
    have e : l.map (u ∘ PyData.int) = l := by
      have : ∀ i ∈ l, (u ∘ PyData.int) i = i := fun _ _ => rfl
      rw [List.map_congr_left this, List.map_id']
    rwa [e] at this
/-- the atoms to k -/
def upto (k : Nat) : List Int := (List.range k).map fun (i : Nat) => (1 + i : Int)
theorem rngD_upto (k : Nat) : rngD 1 k = (upto k).map .int := by unfold rngD upto; rw [List.map_map]; rfl
theorem upto_len (k : Nat) : (upto k).length = k := by simp [upto]
theorem upto_mem {k : Nat} {x : Int} : x ∈ upto k ↔ 1 ≤ x ∧ x ≤ k := by
  unfold upto
  rw [List.mem_map]
  constructor
  · rintro ⟨i, hi, rfl⟩
    have := List.mem_range.mp hi
    omega
  · rintro ⟨h1, h2⟩
    exact ⟨(x - 1).toNat, List.mem_range.mpr (by omega), by omega⟩
theorem upto_nodup (k : Nat) : (upto k).Nodup := by
  unfold upto
  refine List.pairwise_map.mpr ((List.nodup_range (n := k)).imp fun h e => h (by omega))
theorem okRg_of {i : Int} (h : 0 ≤ i) (h2 : i ≤ 1000) : mRg.okRg i = true := by
  unfold mRg.okRg
  simp only [Bool.and_eq_true, decide_eq_true_eq]
  omega
theorem okRg_1 : mRg.okRg 1 = true := okRg_of (by decide) (by decide)
theorem two_size : 2 ≤ sizeLine := by decide
/-- one or its not -/
theorem sign {h : Hnd} {n : Nat} (w : h.Ok (n + 1)) : ∃ r h', g__law_any [h.d, .list [.int 1, .int (-1)]] = .ok false (.int r) [Hnd.d h'] ∧ (r = 1 ∨ r = -1) ∧ h'.Ok n := by
  obtain ⟨d, h', e, m, w'⟩ := any w (ds := [.int 1, .int (-1)]) (by simp) (by simp)
  rcases List.mem_cons.mp m with q | m
  · exact ⟨1, h', by rw [e, q], .inl rfl, w'⟩
  · rcases List.mem_cons.mp m with q | m
    · exact ⟨-1, h', by rw [e, q], .inr rfl, w'⟩
    · cases m
theorem neg1 : fNeg (.int 1) = some (.val (.int (-1))) := rfl
theorem each_abs {sub zs : List Int} (h : PySem.W.EachIs (fun x y => y = x ∨ y = -x) sub zs) (hs : sub.Pairwise (· < ·)) {k : Int} (hk : k ≤ 12) (hp : ∀ x ∈ sub, 1 ≤ x ∧ x ≤ k) : ClOk zs ∧ (∀ y ∈ zs, absI y ≤ k) ∧ ∀ y ∈ zs, absI y ∈ sub := by
  induction h with
  | nil => exact ⟨⟨(fun x hx => nomatch hx), List.Pairwise.nil⟩, (fun y hy => nomatch hy), fun y hy => nomatch hy⟩
  | @cons x y sub zs g t ih =>
    have hs' := List.pairwise_cons.mp hs
    obtain ⟨i1, i2, i3⟩ := ih hs'.2 fun x hx => hp x (List.mem_cons_of_mem _ hx)
    obtain ⟨p1, p2⟩ := hp x List.mem_cons_self
    have ea : absI y = x := by unfold absI; split <;> omega
    refine ⟨⟨fun a ha => ?_, List.pairwise_cons.mpr ⟨fun b hb => ?_, i1.up⟩⟩, fun a ha => ?_, fun a ha => ?_⟩
    · rcases List.mem_cons.mp ha with e | m
      · subst e; omega
      · exact i1.atoms a m
    · rw [ea]; exact hs'.1 _ (i3 b hb)
    · rcases List.mem_cons.mp ha with e | m
      · subst e; omega
      · exact i2 a m
    · rcases List.mem_cons.mp ha with e | m
      · rw [e, ea]; exact List.mem_cons_self
      · exact List.mem_cons_of_mem _ (i3 a m)
theorem law_clause {h : Hnd} {n k m : Nat} (w : h.Ok (n + (1 + k + k))) (hk : k ≤ 12) (hm : m ≤ 12) : ∃ c h', g__law_clause [h.d, .int (k : Nat), .int (m : Nat)] = .ok false (encI c) [Hnd.d h'] ∧ ClOk c ∧ (∀ x ∈ c, absI x ≤ k) ∧ h'.Ok n := by
  obtain ⟨es, h1, e1, p1, w1⟩ := mixed (h := h) (n := n + (1 + k)) (ds := (upto k).map .int) (by rw [List.length_map, upto_len]; exact w.mono (by omega)) (by rw [List.length_map, upto_len]; omega)
  obtain ⟨t, rfl, pt⟩ := perm_ints p1
  obtain ⟨r, h2, e2, r1, r2, w2⟩ := draw (h := h1) (n := n + k) (w1.mono (by omega)) (m := (m : Int) + 1) (by omega) (by omega)
  have rg := okRg_of (i := (k : Int) + 1) (by omega) (by omega)
  have ru := rngD_upto k
  have ct := cut_toI (t.map PyData.int) r1
  rw [← List.map_take] at ct
  have so : fSorted (.list ((t.take r.toNat).map .int)) = some (.fr (.list ((sortI (t.take r.toNat)).map .int))) := by
    unfold fSorted
    rw [lInts_list, intsD_map]; rfl
  have ps := sortI_perm (t.take r.toNat)
  have ss := sortI_sorted (t.take r.toNat)
  have nd : (sortI (t.take r.toNat)).Nodup := ps.symm.nodup ((pt.symm.nodup (upto_nodup k)).sublist (List.take_sublist _ _))
  have st : (sortI (t.take r.toNat)).Pairwise (· < ·) := (ss.and nd).imp fun ⟨a, b⟩ => by omega
  have ml : ∀ x ∈ sortI (t.take r.toNat), 1 ≤ x ∧ x ≤ (k : Int) := fun x hx => upto_mem.mp (pt.mem_iff.mp (List.mem_of_mem_take (ps.mem_iff.mp hx)))
  have lz : (sortI (t.take r.toNat)).length ≤ k := by
    rw [ps.length_eq, List.length_take, pt.length_eq, upto_len]; omega
  generalize sortI (t.take r.toNat) = L at *
  generalize t.take r.toNat = tt at *
  obtain ⟨zs, sub, h3, c1, q1, q2, w3⟩ := mLc_st (it := iSeqM (mV 3)) (tt := tYesM) (e := m__law_clause_1) (v := 4) (ρ := [.le h2.d, .cl (.int (k : Nat)), .cl (.int (m : Nat)), .ow (.list (L.map .int)), .un]) (fun s : Hnd => [.le s.d, .cl (.int (k : Nat)), .cl (.int (m : Nat)), .cl (.list (L.map .int)), .un]) (fun m s => s.Ok (n + m)) (fun x y : Int => y = x ∨ y = -x) PyData.int PyData.int (s := h2) (l := L) (fun _ => rfl) (by simp -implicitDefEqProofs) (Nat.le_trans (show _ ≤ 12 by omega) (by decide)) (w2.mono (by omega)) fun x hx m s ws => by
    obtain ⟨d, s', e, dd, w'⟩ := sign (h := s) (n := n + m) ws
    obtain ⟨x1, x2⟩ := ml x hx
    have mu := fMul_int (i := d) (j := x) (okMul_of (a := 8) (b := 8) (by omega) (by omega) (by decide))
    refine ⟨s', w', .inl ⟨_, d * x, rfl, ?_, ?_⟩⟩
    · simp -implicitDefEqProofs [m__law_clause_1, neg1, e, mu, two_size]
    · rcases dd with q | q <;> subst q <;> omega
  have k1 : m + 1 = m + 1 := rfl
  refine ⟨zs, h3, ?_, (each_abs q2 (st.sublist q1) (by omega) fun x hx => ml x (q1.subset hx)).1, (each_abs q2 (st.sublist q1) (by omega) fun x hx => ml x (q1.subset hx)).2.1, w3⟩
  simp -implicitDefEqProofs [g__law_clause, runD, m__law_clause, rg, ru, okRg_1, e1, e2, ct, so, c1]
end Lb
set_option maxHeartbeats 2000000
namespace Lb
open PySem PySem.Spec L2 Vx
def m__law_clauses_1 : M Bool :=
    (mOr (mT (m2 fGt (mV 3) (mC (.int 2)))) (mT (m2 fGt (mCall g__law_draw [.mu, .pl] (aCons (mV 0) (aCons (mC (.int 8)) aNil))) (mC (.int 0)))))
def m__law_clauses_2 : M Op :=
    (mB (f1 fTuple) (aCons (m1 (fSrtK kAbs) (mV 7)) aNil))
def m__law_clauses_3 : M Fl :=
    (sDrop (meExt 8 (mLst (kCons (m2 fAdd (mV 7) (mTup (kCons (mV 5) kNil))) (kCons (m2 fAdd (mV 7) (mTup (kCons (m2 fSub (mC (.int 0)) (mV 5)) kNil))) kNil)))))
def m__law_clauses_4 : M Fl :=
    (sSeq (sSet 8 (mLst kNil))
    (sSeq (sFor (iSeqM (mV 4)) (tName 7) m__law_clauses_3)
    (sSet 4 (mV 8))))
def m__law_clauses_5 : M Bool :=
    (mOr (mT (m2 fGt (mB (f1 fLen) (aCons (mV 7) aNil)) (mC (.int 0)))) (mT (m2 fEq (mCall g__law_draw [.mu, .pl] (aCons (mV 0) (aCons (mC (.int 6)) aNil))) (mC (.int 0)))))
def m__law_clauses_6 : M Op :=
    (mV 7)
def m__law_clauses_7 : M Op :=
    (mCall g__law_clause [.mu, .pl, .pl] (aCons (mV 0) (aCons (mV 2) (aCons (mC (.int 3)) aNil))))
def m__law_clauses : M Fl :=
    (sSeq (sTg (tTup (tsCons (tName 2) (tsCons (tName 3) tsNil))) (mTup (kCons (m2 fAdd (mC (.int 1)) (mCall g__law_draw [.mu, .pl] (aCons (mV 0) (aCons (mC (.int 4)) aNil)))) (kCons (mCall g__law_draw [.mu, .pl] (aCons (mV 0) (aCons (mC (.int 5)) aNil))) kNil))))
    (sSeq (sSet 1 (mLc (iFn rng1 (aCons (mCall g__law_draw [.mu, .pl] (aCons (mV 0) (aCons (mC (.int 9)) aNil))) aNil)) (tName 6) tYesM m__law_clauses_7 [6]))
    (sSeq (sSet 1 (mLc (iSeqM (mV 1)) (tName 7) m__law_clauses_5 m__law_clauses_6 [7]))
    (sSeq (sIf (mT (m2 fGt (mV 3) (mC (.int 1)))) (sSeq (sSet 4 (mLst (kCons (mTup kNil) kNil)))
    (sSeq (sFor (iSeqM (mSl fSl (mCall g__law_mixed [.mu, .pl] (aCons (mV 0) (aCons (mRg (mC (.int 1)) (m2 fAdd (mV 2) (mC (.int 1)))) aNil))) bNo (bAt (mC (.int 3))))) (tName 5) m__law_clauses_4)
    (sSet 1 (m2 fAdd (mSl fSl (mV 1) bNo (bAt (mC (.int 3)))) (mLc (iSeqM (mV 4)) (tName 7) m__law_clauses_1 m__law_clauses_2 [7]))))) sNx)
    (sRet (mB (f1 fTuple) (aCons (mCall g__law_mixed [.mu, .pl] (aCons (mV 0) (aCons (m2 fAdd (mV 1) (mSl fSl (mV 1) bNo (bAt (mCall g__law_draw [.mu, .pl] (aCons (mV 0) (aCons (mC (.int 2)) aNil)))))) aNil))) aNil)))))))
def g__law_clauses : List D → FR := runD [.mu] 8 m__law_clauses
def growL (a : Int) (L : List (List Int)) : List (List Int) := L.flatMap fun o => [o ++ [a], o ++ [-a]]
theorem grow_len (a : Int) (L : List (List Int)) : (growL a L).length = 2 * L.length := by
  unfold growL
  induction L with
  | nil => rfl
  | cons o L ih => rw [List.flatMap_cons, List.length_append, ih, List.length_cons]; simp; omega
theorem free_wip {s : Sl} (h : wipable (some s) = true) : free (some s) = true := by cases s <;> first | rfl | cases h
theorem grow_for {d w : D} {f A : Sl} {a : Int} {L : List (List Int)} (hL : L.length ≤ 100) (ho : ∀ o ∈ L, o.length ≤ 100) {s7 : Sl} (h7 : wipable (some s7) = true) : ∃ s7', wipable (some s7') = true ∧
    forI (tName 7) m__law_clauses_3 (L.map encI) [.le d, f, A, .cl w, .cl (.list (L.map encI)), .cl (.int a), .un, s7, .ow (.list [])] = .ok .nx [.le d, f, A, .cl w, .cl (.list (L.map encI)), .cl (.int a), .un, s7', .ow (.list ((growL a L).map encI))] := by
  let P : Nat → Ev → Prop := fun i ρ => ∃ s7', ρ = [.le d, f, A, .cl w, .cl (.list (L.map encI)), .cl (.int a), .un, s7', .ow (.list ((growL a (L.take i)).map encI))] ∧ wipable (some s7') = true
  obtain ⟨ρ', e, s7', eρ, hf⟩ := forI_inv (t := tName 7) (b := m__law_clauses_3) (P := P) (L.map encI) 0 [.le d, f, A, .cl w, .cl (.list (L.map encI)), .cl (.int a), .un, s7, .ow (.list [])] ⟨s7, by simp [growL], h7⟩ fun i dd ρ hd hp => by
    obtain ⟨q7, eρ, hq⟩ := hp
    have hq := free_wip hq
    rw [Nat.zero_add] at eρ ⊢
    subst eρ
    rw [List.getElem?_map] at hd
    cases hci : L[i]? with
    | none => rw [hci] at hd; cases hd
    | some o =>
      rw [hci] at hd
      have hd : encI o = dd := Option.some.inj hd
      subst hd
      have hom := List.mem_of_getElem? hci
      have ho1 : o.length + 1 ≤ sizeLine := Nat.le_trans (Nat.succ_le_succ (ho o hom)) (by decide)
      have fe : growL a (L.take (i + 1)) = growL a (L.take i) ++ [o ++ [a], o ++ [-a]] := by
        unfold growL
        rw [List.take_add_one, hci, List.flatMap_append]; simp
      have lz : (growL a (L.take i)).length + 2 ≤ sizeLine := by
        rw [grow_len, List.length_take]
        exact Nat.le_trans (show _ ≤ 300 by omega) (by decide)
      generalize growL a (L.take i) = acc at lz fe ⊢
      refine ⟨[.le d, f, A, .cl w, .cl (.list (L.map encI)), .cl (.int a), .un, .cl (encI o), .ow (.list (acc.map encI))], [.le d, f, A, .cl w, .cl (.list (L.map encI)), .cl (.int a), .un, .cl (encI o), .ow (.list ((acc ++ [o ++ [a], o ++ [-a]]).map encI))], by simp [hq], .inl ?_, .cl (encI o), by rw [fe], rfl⟩
      simp -implicitDefEqProofs [m__law_clauses_3, ho1, one_size, two_size, lz]
  rw [Nat.zero_add, List.length_map, List.take_length] at eρ
  subst eρ
  exact ⟨s7', hf, e⟩
/-- the lots of signs over the atoms as -/
theorem some_for {d w : D} {f A : Sl} (as : List Int) (hl : as.length ≤ 3) (hp : as.Pairwise fun a b => a ≠ b) (h1 : ∀ a ∈ as, 1 ≤ a ∧ a ≤ 12) : ∃ (s4 s5 s7 s8 : Sl) (L : List (List Int)), (s4 = .ow (.list (L.map encI)) ∨ s4 = .cl (.list (L.map encI))) ∧ wipable (some s7) = true ∧ L.length ≤ 8 ∧ (∀ o ∈ L, o.map absI = as) ∧
    forI (tName 5) m__law_clauses_4 (as.map .int) [.le d, f, A, .cl w, .ow (.list [.tuple []]), .un, .un, .un, .un] = .ok .nx [.le d, f, A, .cl w, s4, s5, .un, s7, s8] := by
  let P : Nat → Ev → Prop := fun i ρ => ∃ (s4 s5 s7 s8 : Sl) (L : List (List Int)), ρ = [.le d, f, A, .cl w, s4, s5, .un, s7, s8] ∧ (s4 = .ow (.list (L.map encI)) ∨ s4 = .cl (.list (L.map encI))) ∧ free (some s5) = true ∧ wipable (some s7) = true ∧ free (some s8) = true ∧ L.length = 2 ^ i ∧ (∀ o ∈ L, o.map absI = as.take i)
  obtain ⟨ρ', e, s4, s5, s7, s8, L, eρ, q4, _, q7, _, ql, qo⟩ := forI_inv (t := tName 5) (b := m__law_clauses_4) (P := P) (as.map .int) 0 [.le d, f, A, .cl w, .ow (.list [.tuple []]), .un, .un, .un, .un] ⟨.ow (.list [.tuple []]), .un, .un, .un, [[]], rfl, .inl rfl, rfl, rfl, rfl, rfl, fun o ho => by
      rcases List.mem_cons.mp ho with e | m
      · subst e; simp
      · cases m⟩ fun i dd ρ hd hp => by
    obtain ⟨s4, s5, s7, s8, L, eρ, q4, q5, q7, q8, ql, qo⟩ := hp
    simp only [Nat.zero_add] at ql qo ⊢
    subst eρ
    rw [List.getElem?_map] at hd
    cases hci : as[i]? with
    | none => rw [hci] at hd; cases hd
    | some a =>
      rw [hci] at hd
      have hd : PyData.int a = dd := Option.some.inj hd
      subst hd
      have hi : i < as.length := (List.getElem?_eq_some_iff.mp hci).1
      have pw : 2 ^ i ≤ 4 := Nat.le_trans (Nat.pow_le_pow_right (by decide) (show i ≤ 2 by omega)) (by decide)
      obtain ⟨a1, a2⟩ := h1 a (List.mem_of_getElem? hci)
      obtain ⟨s7', w7, g⟩ := grow_for (d := d) (w := w) (f := f) (A := A) (a := a) (L := L) (by omega) (fun o ho => by
        have := congrArg List.length (qo o ho)
        rw [List.length_map, List.length_take] at this
        omega) q7
      have gl := grow_len a L
      have go : ∀ o ∈ growL a L, o.map absI = as.take (i + 1) := fun o ho => by
        obtain ⟨o', ho', m⟩ := List.mem_flatMap.mp ho
        have ea : absI a = a := by unfold absI; split <;> omega
        have en : absI (-a) = a := by rw [absI_neg]; exact ea
        rw [List.take_add_one, hci, ← qo o' ho']
        rcases List.mem_cons.mp m with e | m
        · subst e; simp [ea]
        · rcases List.mem_cons.mp m with e | m
          · subst e; simp [en]
          · cases m
      generalize growL a L = L' at *
      refine ⟨[.le d, f, A, .cl w, s4, .cl (.int a), .un, s7, s8], [.le d, f, A, .cl w, .cl (.list (L'.map encI)), .cl (.int a), .un, s7', .cl (.list (L'.map encI))], by simp [q5], .inl ?_, _, _, _, _, L', rfl, .inr rfl, rfl, w7, rfl, ?_, go⟩
      · rcases q4 with q4 | q4 <;> subst q4 <;> simp -implicitDefEqProofs [m__law_clauses_4, q8, g]
      · rw [gl, ql, Nat.pow_succ]; omega
  rw [Nat.zero_add, List.length_map] at ql qo
  rw [List.take_length] at qo
  subst eρ
  have : 2 ^ as.length ≤ 8 := Nat.le_trans (Nat.pow_le_pow_right (by decide) hl) (by decide)
  exact ⟨s4, s5, s7, s8, L, q4, q7, by omega, qo, e⟩
end Lb
set_option maxHeartbeats 2000000
namespace Lb
open PySem PySem.Spec L2 Vx
structure Good (c : List Int) : Prop where
  ok : ClOk c
  four : ∀ x ∈ c, absI x ≤ 4
theorem each_mem {α β : Type} {G : α → β → Prop} {Q : β → Prop} {as : List α} {bs : List β} (h : PySem.W.EachIs G as bs) (hq : ∀ a b, G a b → Q b) : ∀ b ∈ bs, Q b := by
  induction h with
  | nil => exact fun b hb => nomatch hb
  | cons g _ ih => exact fun b hb => (List.mem_cons.mp hb).elim (fun e => e ▸ hq _ _ g) (ih b)
theorem each_len {α β : Type} {G : α → β → Prop} {as : List α} {bs : List β} (h : PySem.W.EachIs G as bs) : bs.length = as.length := by
  induction h with
  | nil => rfl
  | cons g _ ih => rw [List.length_cons, List.length_cons, ih]
theorem each_memL {α β : Type} {G : α → β → Prop} {as : List α} {bs : List β} (h : PySem.W.EachIs G as bs) : ∀ b ∈ bs, ∃ a ∈ as, G a b := by
  induction h with
  | nil => exact fun b hb => nomatch hb
  | cons g _ ih => exact fun b hb => (List.mem_cons.mp hb).elim (fun e => e ▸ ⟨_, List.mem_cons_self, g⟩) (fun m => by
      obtain ⟨a, ha, q⟩ := ih b m
      exact ⟨a, List.mem_cons_of_mem _ ha, q⟩)
theorem call_cl {g : List D → FR} {d d' c : D} {k w : Int} (e : g [d, .int k, .int 3] = .ok false c [d']) (x : D) : mK (mCall g [.mu, .pl, .pl] (aCons (mV 0) (aCons (mV 2) (aCons (mC (.int 3)) aNil)))) [.le d, .un, .cl (.int k), .cl (.int w), .un, .un, .cl x, .un, .un] = .ok c [.le d', .un, .cl (.int k), .cl (.int w), .un, .un, .cl x, .un, .un] := by
  simp -implicitDefEqProofs [e]
/-- the first clauses -/
theorem cl_first {s : Hnd} {n k : Nat} {w : Int} (hs : s.Ok (n + 82)) (hk : k ≤ 4) : ∃ (F : List (List Int)) (s' : Hnd), mLc (iFn rng1 (aCons (mCall g__law_draw [.mu, .pl] (aCons (mV 0) (aCons (mC (.int 9)) aNil))) aNil)) (tName 6) tYesM m__law_clauses_7 [6] [.le s.d, .un, .cl (.int (k : Nat)), .cl (.int w), .un, .un, .un, .un, .un] = .ok (.fr (.list (F.map encI))) [.le (Hnd.d s'), .un, .cl (.int (k : Nat)), .cl (.int w), .un, .un, .un, .un, .un] ∧ F.length ≤ 8 ∧ (∀ c ∈ F, Good c) ∧ s'.Ok n := by
  obtain ⟨r, s1, e1, r1, r2, w1⟩ := draw (h := s) (n := n + 81) hs (m := 9) (by decide) (by decide)
  have hr := rng1_of r1 (by omega)
  rw [rngD_map] at hr
  obtain ⟨zs, sub, s2, c1, q1, q2, w2⟩ := mLc_st (it := iFn rng1 (aCons (mCall g__law_draw [.mu, .pl] (aCons (mV 0) (aCons (mC (.int 9)) aNil))) aNil)) (tt := tYesM) (e := m__law_clauses_7) (v := 6) (ρ := [.le s.d, .un, .cl (.int (k : Nat)), .cl (.int w), .un, .un, .un, .un, .un]) (fun s : Hnd => [.le s.d, .un, .cl (.int (k : Nat)), .cl (.int w), .un, .un, .un, .un, .un]) (fun m s => s.Ok (n + 9 * m)) (fun (_ : Nat) c => Good c) (fun i : Nat => PyData.int (i : Nat)) encI (s := s1) (l := List.range r.toNat) (fun _ => rfl) (by simp -implicitDefEqProofs [e1, hr]) (by rw [List.length_range]; exact Nat.le_trans (show _ ≤ 9 by omega) (by decide)) (w1.mono (by rw [List.length_range]; omega)) fun x hx m s ws => by
    obtain ⟨c, s', e, oc, lc, w'⟩ := law_clause (h := s) (n := n + 9 * m) (k := k) (m := 3) (ws.mono (by omega)) (by omega) (by decide)
    rw [show ((3 : Nat) : Int) = 3 from rfl] at e
    refine ⟨s', w', .inl ⟨_, c, rfl, ?_, oc, fun x hx => by have := lc x hx; omega⟩⟩
    exact call_cl e _
  refine ⟨zs, s2, c1, ?_, each_mem q2 (fun _ _ g => g), w2⟩
  rw [each_len q2]
  have := q1.length_le
  rw [List.length_range] at this
  omega
theorem cl_second {s : Hnd} {n k : Nat} {w : Int} {F : List (List Int)} (hF : F.length ≤ 8) (hG : ∀ c ∈ F, Good c) (hs : s.Ok (n + 8)) : ∃ (F' : List (List Int)) (s' : Hnd), mLc (iSeqM (mV 1)) (tName 7) m__law_clauses_5 m__law_clauses_6 [7] [.le s.d, .ow (.list (F.map encI)), .cl (.int (k : Nat)), .cl (.int w), .un, .un, .un, .un, .un] = .ok (.fr (.list (F'.map encI))) [.le (Hnd.d s'), .cl (.list (F.map encI)), .cl (.int (k : Nat)), .cl (.int w), .un, .un, .un, .un, .un] ∧ F'.length ≤ 8 ∧ (∀ c ∈ F', Good c) ∧ s'.Ok n := by
  obtain ⟨zs, sub, s2, c1, q1, q2, w2⟩ := mLc_st (it := iSeqM (mV 1)) (tt := m__law_clauses_5) (e := m__law_clauses_6) (v := 7) (ρ := [.le s.d, .ow (.list (F.map encI)), .cl (.int (k : Nat)), .cl (.int w), .un, .un, .un, .un, .un]) (fun s : Hnd => [.le s.d, .cl (.list (F.map encI)), .cl (.int (k : Nat)), .cl (.int w), .un, .un, .un, .un, .un]) (fun m s => s.Ok (n + m)) (fun a c => a = c) encI encI (s := s) (l := F) (fun _ => rfl) (by simp -implicitDefEqProofs) (Nat.le_trans hF (by decide)) (hs.mono (by omega)) fun c hc m s ws => by
    obtain ⟨r, s', e, r1, r2, w'⟩ := draw (h := s) (n := n + m) ws (m := 6) (by decide) (by decide)
    by_cases lc : 0 < c.length
    · have fl := fLen_pos (c.map PyData.int)
      rw [List.length_map, decide_eq_true lc] at fl
      refine ⟨s, ws.mono (by omega), .inl ⟨[.le s.d, .cl (.list (F.map encI)), .cl (.int (k : Nat)), .cl (.int w), .un, .un, .un, .cl (encI c), .un], c, ?_, ?_, rfl⟩⟩
      · simp -implicitDefEqProofs [m__law_clauses_5, lc]
      · simp -implicitDefEqProofs [m__law_clauses_6]
    · refine ⟨s', w', ?_⟩
      by_cases rz : r = 0
      · left
        refine ⟨[.le s'.d, .cl (.list (F.map encI)), .cl (.int (k : Nat)), .cl (.int w), .un, .un, .un, .cl (encI c), .un], c, ?_, ?_, rfl⟩
        · simp -implicitDefEqProofs [m__law_clauses_5, lc, e, rz]
        · simp -implicitDefEqProofs [m__law_clauses_6]
      · right
        simp -implicitDefEqProofs [m__law_clauses_5, lc, e, rz]
  refine ⟨zs, s2, c1, ?_, fun c hc => ?_, w2⟩
  · rw [each_len q2]; exact Nat.le_trans q1.length_le hF
  · obtain ⟨a, ha, e⟩ := each_memL q2 c hc
    exact e ▸ hG a (q1.subset ha)
end Lb
set_option maxHeartbeats 2000000
namespace Lb
open PySem PySem.Spec L2 Vx
theorem cl_third {s : Hnd} {n : Nat} {w : Int} {f A s4 s5 s7 s8 : Sl} {L : List (List Int)} (h4 : s4 = .ow (.list (L.map encI)) ∨ s4 = .cl (.list (L.map encI))) (h7 : wipable (some s7) = true) (hL : L.length ≤ 8) (hG : ∀ o ∈ L, o.length ≤ 100) (hs : s.Ok (n + 8)) : ∃ (F : List (List Int)) (s' : Hnd), mLc (iSeqM (mV 4)) (tName 7) m__law_clauses_1 m__law_clauses_2 [7] [.le s.d, f, A, .cl (.int w), s4, s5, .un, s7, s8] = .ok (.fr (.list (F.map encI))) [.le (Hnd.d s'), f, A, .cl (.int w), .cl (.list (L.map encI)), s5, .un, s7, s8] ∧ F.length ≤ 8 ∧ (∀ c ∈ F, ∃ o ∈ L, c = sAbs o) ∧ s'.Ok n := by
  have hi : iSeqM (mV 4) [.le s.d, f, A, .cl (.int w), s4, s5, .un, s7, s8] = .ok (L.map encI) [.le s.d, f, A, .cl (.int w), .cl (.list (L.map encI)), s5, .un, s7, s8] := by
    rcases h4 with e | e <;> subst e <;> simp -implicitDefEqProofs
  obtain ⟨zs, sub, s2, c1, q1, q2, w2⟩ := mLc_stx (it := iSeqM (mV 4)) (tt := m__law_clauses_1) (e := m__law_clauses_2) (v := 7) (ρ := [.le s.d, f, A, .cl (.int w), s4, s5, .un, s7, s8]) (fun s : Hnd => [.le s.d, f, A, .cl (.int w), .cl (.list (L.map encI)), s5, .un, s7, s8]) (fun m s => s.Ok (n + m)) (fun a c => c = sAbs a) encI encI (s := s) (l := L) h7 (fun _ => rfl) hi (Nat.le_trans hL (by decide)) (hs.mono (by omega)) fun c hc m s ws => by
    obtain ⟨r, s', e, r1, r2, w'⟩ := draw (h := s) (n := n + m) ws (m := 8) (by decide) (by decide)
    have so := srt_abs (l := c) (Nat.le_trans (hG c hc) (by decide)) (d := encI c) rfl
    have step : ∀ d : D, mK m__law_clauses_2 [.le d, f, A, .cl (.int w), .cl (.list (L.map encI)), s5, .un, .cl (encI c), s8] = .ok (encI (sAbs c)) [.le d, f, A, .cl (.int w), .cl (.list (L.map encI)), s5, .un, .cl (encI c), s8] := fun d => by
      generalize sAbs c = t at so ⊢
      simp -implicitDefEqProofs [m__law_clauses_2, so]
    by_cases lw : 2 < w
    · refine ⟨s, ws.mono (by omega), .inl ⟨[.le s.d, f, A, .cl (.int w), .cl (.list (L.map encI)), s5, .un, .cl (encI c), s8], sAbs c, ?_, step _, rfl⟩⟩
      simp -implicitDefEqProofs [m__law_clauses_1, lw]
    · refine ⟨s', w', ?_⟩
      by_cases rz : 0 < r
      · left
        refine ⟨[.le s'.d, f, A, .cl (.int w), .cl (.list (L.map encI)), s5, .un, .cl (encI c), s8], sAbs c, ?_, step _, rfl⟩
        simp -implicitDefEqProofs [m__law_clauses_1, lw, e, rz]
      · right
        simp -implicitDefEqProofs [m__law_clauses_1, lw, e, rz]
  refine ⟨zs, s2, c1, ?_, fun c hc => ?_, w2⟩
  · rw [each_len q2]; exact Nat.le_trans q1.length_le hL
  · obtain ⟨a, ha, e⟩ := each_memL q2 c hc
    exact ⟨a, q1.subset ha, e⟩
theorem perm_enc {es : List D} {l : List (List Int)} (h : es.Perm (l.map encI)) : ∃ t : List (List Int), es = t.map encI ∧ t.Perm l := by
  let u : D → List Int := fun d => match d with | .tuple ds => ds.map fun d => (match d with | .int i => i | _ => 0) | _ => []
  have ue : ∀ c, u (encI c) = c := fun c => by
    show (c.map PyData.int).map _ = c
    rw [List.map_map]
    induction c with
    | nil => rfl
    | cons a c ih => rw [List.map_cons, ih]; rfl
  refine ⟨es.map u, ?_, ?_⟩
  · rw [List.map_map]
    have : ∀ d ∈ es, (encI ∘ u) d = d := fun d hd => by
      obtain ⟨i, _, rfl⟩ := List.mem_map.mp (h.mem_iff.mp hd)
      show encI (u (encI i)) = _
      rw [ue]
    rw [List.map_congr_left this, List.map_id']
  · have := h.map u
    rw [List.map_map] at this
    have e : l.map (u ∘ encI) = l := by
      have : ∀ i ∈ l, (u ∘ encI) i = i := fun c _ => ue c
      rw [List.map_congr_left this, List.map_id']
    rwa [e] at this
theorem cl_ret {g1 g2 : List D → FR} {s d1 d2 : D} {r : Int} {F t : List (List Int)} {A w s4 s5 s7 s8 : Sl} (e1 : g1 [s, .int 2] = .ok false (.int r) [d1]) (h0 : 0 ≤ r) (hz : F.length ≤ 20) (e2 : g2 [d1, .list ((F ++ F.take r.toNat).map encI)] = .ok true (.list (t.map encI)) [d2]) :
    mB (f1 fTuple) (aCons (mCall g2 [.mu, .pl] (aCons (mV 0) (aCons (m2 fAdd (mV 1) (mSl fSl (mV 1) bNo (bAt (mCall g1 [.mu, .pl] (aCons (mV 0) (aCons (mC (.int 2)) aNil)))))) aNil))) aNil) [.le s, .ow (.list (F.map encI)), A, w, s4, s5, .un, s7, s8] = .ok (.val (encC t)) [.le d2, .ow (.list (F.map encI)), A, w, s4, s5, .un, s7, s8] := by
  have ct := cut_toI (F.map encI) h0
  rw [← List.map_take] at ct
  have hz2 : F.length + (F.take r.toNat).length ≤ sizeLine := by
    rw [List.length_take]; exact Nat.le_trans (show _ ≤ 40 by omega) (by decide)
  rw [List.map_append] at e2
  generalize F.take r.toNat = F2 at *
  simp -implicitDefEqProofs [e1, ct, hz2, e2]
end Lb
set_option maxHeartbeats 2000000
namespace Lb
open PySem PySem.Spec L2 Vx
theorem cl_tg {g : List D → FR} {d d1 d2 : D} {r q : Int} (e1 : g [d, .int 4] = .ok false (.int r) [d1]) (e2 : g [d1, .int 5] = .ok false (.int q) [d2]) :
    sTg (Vx.tTup (tsCons (tName 2) (tsCons (tName 3) tsNil))) (mTup (kCons (m2 fAdd (mC (.int 1)) (mCall g [.mu, .pl] (aCons (mV 0) (aCons (mC (.int 4)) aNil)))) (kCons (mCall g [.mu, .pl] (aCons (mV 0) (aCons (mC (.int 5)) aNil))) kNil))) [.le d, .un, .un, .un, .un, .un, .un, .un, .un] = .ok .nx [.le d2, .un, .cl (.int (1 + r)), .cl (.int q), .un, .un, .un, .un, .un] := by
  simp -implicitDefEqProofs [e1, e2, two_size]
theorem cl_mix {g : List D → FR} {d d1 : D} {k : Nat} {t : List Int} {f w : Sl} (hk : k ≤ 4) (e : g [d, .list ((upto k).map .int)] = .ok true (.list (t.map .int)) [d1]) :
    iSeqM (mSl fSl (mCall g [.mu, .pl] (aCons (mV 0) (aCons (mRg (mC (.int 1)) (m2 fAdd (mV 2) (mC (.int 1)))) aNil))) bNo (bAt (mC (.int 3)))) [.le d, f, .cl (.int (k : Nat)), w, .ow (.list [.tuple []]), .un, .un, .un, .un] = .ok ((t.take 3).map .int) [.le d1, f, .cl (.int (k : Nat)), w, .ow (.list [.tuple []]), .un, .un, .un, .un] := by
  have rg := okRg_of (i := (k : Int) + 1) (by omega) (by omega)
  have ru := rngD_upto k
  have ct := cut_toI (t.map PyData.int) (i := 3) (by decide)
  rw [← List.map_take, show (3 : Int).toNat = 3 from rfl] at ct
  generalize t.take 3 = t3 at *
  simp -implicitDefEqProofs [rg, ru, okRg_1, e, ct]
theorem cl_cat {F F3 : List (List Int)} {M : M Op} {d d1 : D} {A w s4 s4' s5 s7 s8 : Sl} (hz : F.length ≤ 8) (h3 : F3.length ≤ 8) (e : M [.le d, .ow (.list (F.map encI)), A, w, s4, s5, .un, s7, s8] = .ok (.fr (.list (F3.map encI))) [.le d1, .ow (.list (F.map encI)), A, w, s4', s5, .un, s7, s8]) :
    sSet 1 (m2 fAdd (mSl fSl (mV 1) bNo (bAt (mC (.int 3)))) M) [.le d, .ow (.list (F.map encI)), A, w, s4, s5, .un, s7, s8] = .ok .nx [.le d1, .ow (.list ((F.take 3 ++ F3).map encI)), A, w, s4', s5, .un, s7, s8] := by
  have ct := cut_toI (F.map encI) (i := 3) (by decide)
  rw [← List.map_take, show (3 : Int).toNat = 3 from rfl] at ct
  have hz2 : (F.take 3).length + F3.length ≤ sizeLine := by
    rw [List.length_take]; exact Nat.le_trans (show _ ≤ 40 by omega) (by decide)
  rw [List.map_append]
  generalize F.take 3 = F2 at *
  simp -implicitDefEqProofs [ct, hz2, e]
theorem seq_nx {a b : M Fl} {ρ ρ1 : Ev} (h : a ρ = .ok .nx ρ1) : sSeq a b ρ = b ρ1 := by
  unfold sSeq; rw [h]; rfl
theorem set_fr {i : Nat} {m : M Op} {ρ ρ1 : Ev} {d : D} (h : m ρ = .ok (.fr d) ρ1) (hf : free ρ1[i]? = true) : sSet i m ρ = .ok .nx (ρ1.set i (.ow d)) := by
  unfold sSet; rw [h]
  show oNx (if free ρ1[i]? = true then some (ρ1.set i (.ow d)) else none) = _
  rw [if_pos hf]; rfl
theorem if_t {c : M Bool} {a b : M Fl} {ρ ρ1 : Ev} (h : c ρ = .ok true ρ1) : sIf c a b ρ = a ρ1 := by
  rw [ev_sIf, h]; rfl
theorem if_f {c : M Bool} {a b : M Fl} {ρ ρ1 : Ev} (h : c ρ = .ok false ρ1) : sIf c a b ρ = b ρ1 := by
  rw [ev_sIf, h]; rfl
theorem for_nx {it : M (List D)} {t : Vx.Tg} {b : M Fl} {ρ ρ1 : Ev} {ds : List D} (h : it ρ = .ok ds ρ1) : sFor it t b ρ = forI t b ds ρ1 := by
  unfold sFor; rw [h]; rfl
theorem ret_of {m : M Op} {ρ ρ1 : Ev} {x : Op} (h : m ρ = .ok x ρ1) : sRet m ρ = .ok (.rt x) ρ1 := by
  unfold sRet; rw [h]; rfl
theorem cl_way {d f A s4 s5 s6 s7 s8 : Sl} (w : Int) : mT (m2 fGt (mV 3) (mC (.int 1))) [d, f, A, .cl (.int w), s4, s5, s6, s7, s8] = .ok (decide (1 < w)) [d, f, A, .cl (.int w), s4, s5, s6, s7, s8] := by
  simp -implicitDefEqProofs
theorem law_clauses {h : Hnd} {n : Nat} (w : h.Ok (n + 200)) : ∃ (cs : List (List Int)) (h' : Hnd), g__law_clauses [h.d] = .ok false (encC cs) [h'.d] ∧ cs.length ≤ 22 ∧ (∀ c ∈ cs, Good c) ∧ h'.Ok n := by
  obtain ⟨r, h1, e1, r1, r2, w1⟩ := draw (h := h) (n := n + 199) (w.mono (by omega)) (m := 4) (by decide) (by decide)
  obtain ⟨q, h2, e2, q1, q2, w2⟩ := draw (h := h1) (n := n + 198) (w1.mono (by omega)) (m := 5) (by decide) (by decide)
  have tg := cl_tg e1 e2
  obtain ⟨k, hk⟩ : ∃ k : Nat, 1 + r = (k : Int) := ⟨(1 + r).toNat, by omega⟩
  rw [hk] at tg
  obtain ⟨F, h3, c3, l3, g3, w3⟩ := cl_first (s := h2) (n := n + 100) (k := k) (w := q) (w2.mono (by omega)) (by omega)
  obtain ⟨F', h4, c4, l4, g4, w4⟩ := cl_second (s := h3) (n := n + 90) (k := k) (w := q) l3 g3 (w3.mono (by omega))
  -- what the return does
  have ret : ∀ (F : List (List Int)) (s : Hnd) (s4 s5 s7 s8 : Sl), F.length ≤ 11 → (∀ c ∈ F, Good c) → s.Ok (n + 40) → ∃ (cs : List (List Int)) (h' : Hnd), (∃ ρ2, sRet (mB (f1 fTuple) (aCons (mCall g__law_mixed [.mu, .pl] (aCons (mV 0) (aCons (m2 fAdd (mV 1) (mSl fSl (mV 1) bNo (bAt (mCall g__law_draw [.mu, .pl] (aCons (mV 0) (aCons (mC (.int 2)) aNil)))))) aNil))) aNil)) [.le s.d, .ow (.list (F.map encI)), .cl (.int (k : Nat)), .cl (.int q), s4, s5, .un, s7, s8] = .ok (.rt (.val (encC cs))) (.le h'.d :: ρ2)) ∧ cs.length ≤ 22 ∧ (∀ c ∈ cs, Good c) ∧ h'.Ok n := fun F s s4 s5 s7 s8 hz hg ws => by
    obtain ⟨a, s1, e, a1, a2, ws1⟩ := draw (h := s) (n := n + 39) (ws.mono (by omega)) (m := 2) (by decide) (by decide)
    have lz : (F ++ F.take a.toNat).length ≤ 22 := by rw [List.length_append, List.length_take]; omega
    obtain ⟨es, s2, e', p, ws2⟩ := mixed (h := s1) (n := n) (ds := (F ++ F.take a.toNat).map encI) (ws1.mono (by rw [List.length_map]; omega)) (by rw [List.length_map]; omega)
    obtain ⟨t, rfl, pt⟩ := perm_enc p
    exact ⟨t, s2, ⟨_, ret_of (cl_ret e a1 (by omega) e')⟩, by rw [pt.length_eq]; exact lz, fun c hc => by
      rcases List.mem_append.mp (pt.mem_iff.mp hc) with m | m
      · exact hg c m
      · exact hg c (List.mem_of_mem_take m), ws2⟩
  have fin : (∃ (cs : List (List Int)) (h' : Hnd), (∃ ρ2, m__law_clauses [.le h.d, .un, .un, .un, .un, .un, .un, .un, .un] = .ok (.rt (.val (encC cs))) (.le h'.d :: ρ2)) ∧ cs.length ≤ 22 ∧ (∀ c ∈ cs, Good c) ∧ h'.Ok n) := by
    unfold m__law_clauses
    have c3' := set_fr (i := 1) c3 rfl
    have c4' := set_fr (i := 1) c4 rfl
    simp only [List.set_cons_succ, List.set_cons_zero] at c3' c4'
    rw [seq_nx tg, seq_nx c3', seq_nx c4']
    have cw := cl_way (d := .le h4.d) (f := .ow (.list (F'.map encI))) (A := .cl (.int (k : Nat))) (s4 := .un) (s5 := .un) (s6 := .un) (s7 := .un) (s8 := .un) q
    by_cases hw : 1 < q
    · rw [decide_eq_true hw] at cw
      obtain ⟨es, h5, e5, p5, w5⟩ := mixed (h := h4) (n := n + 80) (ds := (upto k).map .int) (w4.mono (by rw [List.length_map, upto_len]; omega)) (by rw [List.length_map, upto_len]; omega)
      obtain ⟨t, rfl, pt⟩ := perm_ints p5
      have mx := cl_mix (f := .ow (.list (F'.map encI))) (w := .cl (.int q)) (k := k) (by omega) e5
      have h3l : (t.take 3).length ≤ 3 := by rw [List.length_take]; omega
      have nd : (t.take 3).Pairwise fun a b => a ≠ b := (pt.symm.nodup (upto_nodup k)).sublist (List.take_sublist _ _)
      have ml : ∀ a ∈ t.take 3, 1 ≤ a ∧ a ≤ 4 := fun a ha => by
        have := upto_mem.mp (pt.mem_iff.mp (List.mem_of_mem_take ha)); omega
      obtain ⟨s4, s5, s7, s8, L, q4, q7, ql, qo, ef⟩ := some_for (d := h5.d) (w := .int q) (f := .ow (.list (F'.map encI))) (A := .cl (.int (k : Nat))) (t.take 3) h3l nd fun a ha => by have := ml a ha; omega
      obtain ⟨F3, h6, c6, l6, g6, w6⟩ := cl_third (s := h5) (n := n + 60) (w := q) (f := .ow (.list (F'.map encI))) (A := .cl (.int (k : Nat))) (s5 := s5) (s8 := s8) q4 q7 ql (fun o ho => by
        have := congrArg List.length (qo o ho)
        rw [List.length_map] at this; omega) (w5.mono (by omega))
      have cc := cl_cat l4 l6 c6
      have g7 : ∀ c ∈ F3, Good c := fun c hc => by
        obtain ⟨o, ho, rfl⟩ := g6 c hc
        have ea := qo o ho
        have dd : o.Pairwise fun a b => absI a ≠ absI b := List.pairwise_map.mp (ea ▸ nd)
        obtain ⟨u, p⟩ := sAbs_up dd
        have m4 : ∀ x ∈ sAbs o, 1 ≤ absI x ∧ absI x ≤ 4 := fun x hx => ml _ (ea ▸ List.mem_map.mpr ⟨x, p.mem_iff.mp hx, rfl⟩)
        refine ⟨⟨fun x hx => ?_, u⟩, fun x hx => (m4 x hx).2⟩
        have := m4 x hx
        unfold absI at this
        split at this <;> omega
      have b4 : sSet 4 (mLst (kCons (mTup kNil) kNil)) [.le h4.d, .ow (.list (F'.map encI)), .cl (.int (k : Nat)), .cl (.int q), .un, .un, .un, .un, .un] = .ok .nx [.le h4.d, .ow (.list (F'.map encI)), .cl (.int (k : Nat)), .cl (.int q), .ow (.list [.tuple []]), .un, .un, .un, .un] := by
        simp -implicitDefEqProofs [one_size]
      have br := (if_t (b := sNx) cw).trans ((seq_nx b4).trans ((seq_nx ((for_nx mx).trans ef)).trans cc))
      rw [seq_nx br]
      exact ret _ h6 _ _ _ _ (by rw [List.length_append, List.length_take]; omega) (fun c hc => by
        rcases List.mem_append.mp hc with m | m
        · exact g4 c (List.mem_of_mem_take m)
        · exact g7 c m) (w6.mono (by omega))
    · rw [decide_eq_false hw] at cw
      rw [seq_nx (show sIf _ _ sNx _ = .ok .nx _ from if_f cw)]
      exact ret F' h4 _ _ _ _ (by omega) g4 (w4.mono (by omega))
  obtain ⟨cs, h', ⟨ρ2, eb⟩, z1, z2, z3⟩ := fin
  refine ⟨cs, h', ?_, z1, z2, z3⟩
  generalize h.d = hd at eb
  unfold g__law_clauses
  generalize m__law_clauses = M at eb
  simp -implicitDefEqProofs [runD, eb]
end Lb
set_option maxHeartbeats 2000000
namespace Lb
open PySem PySem.Spec L2 Vx
def m__law_hand_1 : M Op :=
    (mB (f1 fAbs) (aCons (mB (f1 fInt) (aCons (mV 2) aNil)) aNil))
def m__law_hand : M Fl :=
    (sSeq (sSet 1 (mLc (iSeqM (mSl fSl (mV 0) bNo (bAt (mC (.int 63))))) (tName 2) tYesM m__law_hand_1 [2]))
    (sRet (mLst (kCons (mV 1) (kCons (mC (.int 0)) (kCons (mC (.int 0)) (kCons (m2 fAdd (mC (.int 971)) (m2 fMul (mC (.int 61)) (mB (f1 fLen) (aCons (mV 1) aNil)))) (kCons (mC (.int 0)) kNil))))))))
def g__law_hand : List D → FR := runD [.pl] 2 m__law_hand
def hand0 (ns : List Int) : Hnd := ⟨ns.map absI, 0, 0, 971 + 61 * (ns.length : Nat), 0⟩
theorem five_size : 5 ≤ sizeLine := by decide
theorem law_hand {ns : List Int} (hz : ns.length ≤ 63) : g__law_hand [.list (ns.map .int)] = .ok true (hand0 ns).d [] := by
  have ct : cutD (ns.map PyData.int) none (some 63) = ns.map .int := by
    have := cut_toI (ns.map PyData.int) (i := 63) (by decide)
    rw [this, List.take_of_length_le (by rw [List.length_map]; exact hz)]
  have c1 : mLc (iSeqM (mSl fSl (mV 0) bNo (bAt (mC (.int 63))))) (tName 2) tYesM m__law_hand_1 [2] [.bo (.list (ns.map .int)), .un, .un] = .ok (.fr (.list (ns.map fun i => .int (absI i)))) [.bo (.list (ns.map .int)), .un, .un] :=
    mLc_encM .int _ (by simp -implicitDefEqProofs [ct]) rfl (Nat.le_trans hz (by decide)) fun x _ => by simp -implicitDefEqProofs [m__law_hand_1]
  have hm : (ns.map fun i => PyData.int (absI i)) = (ns.map absI).map .int := by rw [List.map_map]; rfl
  rw [hm] at c1
  have hl : (ns.map absI).length = ns.length := List.length_map _
  have mu := fMul_int (i := 61) (j := (ns.length : Nat)) (okMul_of (a := 8) (b := 8) (by decide) (by omega) (by decide))
  unfold hand0 Hnd.d
  dsimp only
  generalize ns.map absI = cs at c1 hl ⊢
  simp -implicitDefEqProofs [g__law_hand, runD, m__law_hand, c1, hl, mu, five_size]
theorem hand_ok {ns : List Int} (hz : ns.length ≤ 63) (hb : ∀ z ∈ ns, z.natAbs < 2 ^ 1048576) {n : Nat} (hn : n ≤ 1000000) : (hand0 ns).Ok n := by
  refine ⟨fun c hc => ?_, Int.le_refl 0, ?_, Int.le_refl 0, ?_⟩
  · obtain ⟨i, hi, rfl⟩ := List.mem_map.mp hc
    have := hb i hi
    have e : (absI i).natAbs = i.natAbs := by unfold absI; split <;> omega
    exact ⟨by unfold absI; split <;> omega, by rw [e]; exact this⟩
  · show 0 ≤ (971 + 61 * (ns.length : Nat) : Int) ∧ (971 + 61 * (ns.length : Nat) : Int) < 4294967296
    omega
  · show (0 : Int) + n ≤ 18446744073709551616
    omega
end Lb
set_option maxHeartbeats 2000000
namespace Lb
open PySem PySem.Spec L2 Vx
def m__law_is_lot_right_1 : M Bool :=
    (mAnd (mT (m2 fNotIn (mV 8) (mV 2))) (mT (m2 fNotIn (m2 fSub (mC (.int 0)) (mV 8)) (mV 2))))
def m__law_is_lot_right_2 : M Op :=
    (mV 8)
def m__law_is_lot_right_3 : M Op :=
    (m2 fEq (m2 fIx (mV 4) (m2 fSub (mB (f1 fAbs) (aCons (mV 8) aNil)) (mC (.int 1)))) (mB (f1 fInt) (aCons (m2 fGt (mV 8) (mC (.int 0))) aNil)))
def m__law_is_lot_right_4 : M Op :=
    (mCall g__law_breaks [.pl, .pl] (aCons (mV 8) (aCons (mV 4) aNil)))
def m__law_is_lot_right_5 : M Op :=
    (mB (f1 fAny) (aCons (mLc (iSeqM (mV 9)) (tName 8) tYesM m__law_is_lot_right_4 [8]) aNil))
def m__law_is_lot_right_6 : M Fl :=
    (sIf (mT (mB (f1 fAll) (aCons (mLc (iSeqM (mV 2)) (tName 8) tYesM m__law_is_lot_right_3 [8]) aNil))) (sSeq (sSet 7 (mLc (iSeqM (mTup (kCons (mV 1) (kCons (mV 3) kNil)))) (tName 9) tYesM m__law_is_lot_right_5 [9]))
    (sIf (mT (m2 fNe (m2 fIx (mV 7) (mC (.int 0))) (m2 fIx (mV 7) (mC (.int 1))))) (sRet (mC (.bool false))) sNx)) sNx)
def m__law_is_lot_right : M Fl :=
    (sSeq (sSet 3 (mCall g_given_lot [.pl, .pl] (aCons (mV 1) (aCons (mV 2) aNil))))
    (sSeq (sIf (mNot (mTr (mCall (g__law_same 12) [.pl, .pl] (aCons (mV 3) (aCons (mCall g__law_left [.pl, .pl] (aCons (mV 1) (aCons (mV 2) aNil))) aNil))))) (sRet (mC (.bool false))) sNx)
    (sSeq (sFor (iSeqM (mCall g__law_worlds [.pl] (aCons (mB fMax (aCons (mLst (kCons (mC (.int 4)) (kCons (mCall g__law_many [.pl] (aCons (mV 1) aNil)) kNil))) aNil)) aNil))) (tName 4) m__law_is_lot_right_6)
    (sSeq (sSet 5 (mB (f1 fTuple) (aCons (mLc (iSeqM (mCall g__law_clause [.mu, .pl, .pl] (aCons (mV 0) (aCons (mC (.int 4)) (aCons (mC (.int 3)) aNil))))) (tName 8) m__law_is_lot_right_1 m__law_is_lot_right_2 [8]) aNil)))
    (sSeq (sSet 6 (mB (f1 fTuple) (aCons (m1 (fSrtK kAbs) (m2 fAdd (mV 2) (mV 5))) aNil)))
    (sRet (m2 fEq (mCall g_given_lot [.pl, .pl] (aCons (mV 1) (aCons (mV 6) aNil))) (mCall g_given_lot [.pl, .pl] (aCons (mV 3) (aCons (mV 5) aNil))))))))))
def g__law_is_lot_right : List D → FR := runD [.mu, .pl, .pl] 7 m__law_is_lot_right
theorem lot_all {d hd : D} {csd : D} {lot w : List Int} (hf : Fits lot w) (hz : lot.length ≤ sizeLine) {s5 s6 s7 : Sl} : mLc (iSeqM (mV 2)) (tName 8) tYesM m__law_is_lot_right_3 [8] [.le d, .cl csd, .cl (encI lot), .cl hd, .cl (encI w), s5, s6, s7, .un, .un] = .ok (.fr (.list (lot.map fun x => .bool (litB w x)))) [.le d, .cl csd, .cl (encI lot), .cl hd, .cl (encI w), s5, s6, s7, .un, .un] :=
  mLc_encM .int _ (by simp -implicitDefEqProofs) rfl hz fun x hx => by
    obtain ⟨h0, h1⟩ := hf x hx
    have e := ix_lit h0 h1
    by_cases p : 0 < x <;> simp -implicitDefEqProofs [m__law_is_lot_right_3, e, litB, p]
theorem lot_breaks {d hd lot : D} {xs cs : List (List Int)} {w : List Int} (hf : ∀ c ∈ xs, Fits c w) (hz : ∀ c ∈ xs, c.length ≤ sizeLine) (hl : xs.length ≤ sizeLine) {s5 s6 s7 : Sl} {csd : D} : mLc (iSeqM (mV 9)) (tName 8) tYesM m__law_is_lot_right_4 [8] [.le d, .cl csd, .cl lot, .cl hd, .cl (encI w), s5, s6, s7, .un, .cl (encC xs)] = .ok (.fr (.list (xs.map fun c => .bool (!holdsB c w)))) [.le d, .cl csd, .cl lot, .cl hd, .cl (encI w), s5, s6, s7, .un, .cl (encC xs)] :=
  mLc_encM encI _ (by simp -implicitDefEqProofs) rfl hl fun c hc => by
    have e := breaks (hf c hc) (hz c hc)
    simp -implicitDefEqProofs [m__law_is_lot_right_4, e]
theorem lot_flags {d lot : D} {cs hs : List (List Int)} {w : List Int} (hf : ∀ c ∈ cs, Fits c w) (hz : ∀ c ∈ cs, c.length ≤ sizeLine) (hl : cs.length ≤ sizeLine) (hf2 : ∀ c ∈ hs, Fits c w) (hz2 : ∀ c ∈ hs, c.length ≤ sizeLine) (hl2 : hs.length ≤ sizeLine) {s5 s6 s7 : Sl} :
    mLc (iSeqM (mTup (kCons (mV 1) (kCons (mV 3) kNil)))) (tName 9) tYesM m__law_is_lot_right_5 [9] [.le d, .cl (encC cs), .cl lot, .cl (encC hs), .cl (encI w), s5, s6, s7, .un, .un] = .ok (.fr (.list [.bool (breaksB cs w), .bool (breaksB hs w)])) [.le d, .cl (encC cs), .cl lot, .cl (encC hs), .cl (encI w), s5, s6, s7, .un, .un] := by
  have := mLc_encM (it := iSeqM (mTup (kCons (mV 1) (kCons (mV 3) kNil)))) (e := m__law_is_lot_right_5) (v := 9) (l := [cs, hs]) encC (fun xs => .bool (breaksB xs w)) (ρ := [.le d, .cl (encC cs), .cl lot, .cl (encC hs), .cl (encI w), s5, s6, s7, .un, .un]) (ρ1 := [.le d, .cl (encC cs), .cl lot, .cl (encC hs), .cl (encI w), s5, s6, s7, .un, .un]) (by simp -implicitDefEqProofs [two_size]) rfl two_size fun xs hx => by
    have hh : (∀ c ∈ xs, Fits c w) ∧ (∀ c ∈ xs, c.length ≤ sizeLine) ∧ xs.length ≤ sizeLine := by
      rcases List.mem_cons.mp hx with e | m
      · subst e; exact ⟨hf, hz, hl⟩
      · rcases List.mem_cons.mp m with e | m
        · subst e; exact ⟨hf2, hz2, hl2⟩
        · cases m
    have c1 := lot_breaks (d := d) (hd := encC hs) (lot := lot) (cs := cs) (s5 := s5) (s6 := s6) (s7 := s7) (csd := encC cs) hh.1 hh.2.1 hh.2.2
    have a1 := fAny_map (fun c => !holdsB c w) xs
    have eb : (xs.any fun c => !holdsB c w) = breaksB xs w := rfl
    rw [eb] at a1
    simp -implicitDefEqProofs [m__law_is_lot_right_5, c1, a1]
  exact this
theorem lot_body {d : D} {lot w : List Int} {cs hs : List (List Int)} (hlot : Fits lot w) (hzl : lot.length ≤ sizeLine) (hf : ∀ c ∈ cs, Fits c w) (hz : ∀ c ∈ cs, c.length ≤ sizeLine) (hl : cs.length ≤ sizeLine) (hf2 : ∀ c ∈ hs, Fits c w) (hz2 : ∀ c ∈ hs, c.length ≤ sizeLine) (hl2 : hs.length ≤ sizeLine) (same : lot.all (litB w) = true → breaksB cs w = breaksB hs w) {s5 s6 s7 : Sl} (h7 : free (some s7) = true) :
    ∃ s7', free (some s7') = true ∧ m__law_is_lot_right_6 [.le d, .cl (encC cs), .cl (encI lot), .cl (encC hs), .cl (encI w), s5, s6, s7, .un, .un] = .ok .nx [.le d, .cl (encC cs), .cl (encI lot), .cl (encC hs), .cl (encI w), s5, s6, s7', .un, .un] := by
  have c1 := lot_all (d := d) (hd := encC hs) (csd := encC cs) (s5 := s5) (s6 := s6) (s7 := s7) hlot hzl
  have a1 := fAll_map (litB w) lot
  cases ha : lot.all (litB w) with
  | false =>
    rw [ha] at a1
    exact ⟨s7, h7, by simp -implicitDefEqProofs [m__law_is_lot_right_6, c1, a1]⟩
  | true =>
    rw [ha] at a1
    have c2 := lot_flags (d := d) (lot := encI lot) (s5 := s5) (s6 := s6) (s7 := s7) hf hz hl hf2 hz2 hl2
    rw [← same ha] at c2
    generalize breaksB cs w = b at c2
    refine ⟨.ow (.list [.bool b, .bool b]), rfl, ?_⟩
    simp -implicitDefEqProofs [m__law_is_lot_right_6, c1, a1, c2, h7]
end Lb
set_option maxHeartbeats 2000000
namespace Lb
open PySem PySem.Spec L2 Vx
theorem many_4 {cs : List (List Int)} (hg : ∀ c ∈ cs, Good c) : manyI cs ≤ 4 := many_up (by decide) fun c hc x hx => (hg c hc).four x hx
theorem fMax_4 {m : Int} (h : m ≤ 4) : fMax [.list [.int 4, .int m]] = some (.val (.int 4)) := by
  rw [fMax_1, lInts_list, show [PyData.int 4, PyData.int m] = [4, m].map .int from rfl, intsD_map]
  show some (Op.val (.int (mxI 4 [m]))) = _
  have : mxI 4 [m] = 4 := by
    have h1 := (mxI_le_iff [m] 4 4).mpr ⟨Int.le_refl 4, fun x hx => by rcases List.mem_cons.mp hx with e | e; exact e ▸ h; cases e⟩
    have h2 := (mxI_le [m] 4).1
    omega
  rw [this]
theorem lot_loop {d : D} {lot : List Int} {cs : List (List Int)} (hc : CsOk cs) (hg : ∀ c ∈ cs, Good c) (hlot : Good lot) : ∃ s4 s7, free (some s7) = true ∧ forI (tName 4) m__law_is_lot_right_6 ((worldsL 4).map encI) [.le d, .cl (encC cs), .cl (encI lot), .cl (encC (leftL cs lot)), .un, .un, .un, .un, .un, .un] = .ok .nx [.le d, .cl (encC cs), .cl (encI lot), .cl (encC (leftL cs lot)), s4, .un, .un, s7, .un, .un] := by
  let P : Nat → Ev → Prop := fun i ρ => ∃ s4 s7, ρ = [.le d, .cl (encC cs), .cl (encI lot), .cl (encC (leftL cs lot)), s4, .un, .un, s7, .un, .un] ∧ free (some s4) = true ∧ free (some s7) = true
  have hl := hc.left lot
  have hle : ∀ c ∈ leftL cs lot, ∀ x ∈ c, x ≠ 0 ∧ absI x ≤ 4 := fun c hcm x hx => by
    obtain ⟨o, ho, rfl⟩ := List.mem_map.mp hcm
    have hx' := (List.mem_filter.mp hx).1
    have hom := (List.mem_filter.mp ho).1
    exact ⟨((hg o hom).ok.atoms x hx').2.2, (hg o hom).four x hx'⟩
  have h80 : 80 ≤ sizeLine := by decide
  obtain ⟨ρ', e, s4, s7, eρ, _, q7⟩ := forI_inv (t := tName 4) (b := m__law_is_lot_right_6) (P := P) ((worldsL 4).map encI) 0 _ ⟨.un, .un, rfl, rfl, rfl⟩ fun i dd ρ hd hp => by
    obtain ⟨s4, s7, eρ, q4, q7⟩ := hp
    subst eρ
    rw [List.getElem?_map] at hd
    cases hci : (worldsL 4)[i]? with
    | none => rw [hci] at hd; cases hd
    | some w =>
      rw [hci] at hd
      have hd : encI w = dd := Option.some.inj hd
      subst hd
      have lw := worlds_len 4 w (List.mem_of_getElem? hci)
      obtain ⟨s7', f7, b⟩ := lot_body (d := d) (lot := lot) (w := w) (cs := cs) (hs := leftL cs lot) (s5 := .un) (s6 := .un) (fun x hx => ⟨(hlot.ok.atoms x hx).2.2, by have := hlot.four x hx; omega⟩) hlot.ok.size (fun c hcm x hx => ⟨((hg c hcm).ok.atoms x hx).2.2, by have := (hg c hcm).four x hx; omega⟩) (fun c hcm => (hc.ok c hcm).size) (Nat.le_trans hc.many h80) (fun c hcm x hx => ⟨(hle c hcm x hx).1, by have := (hle c hcm x hx).2; omega⟩) (fun c hcm => (hl.ok c hcm).size) (Nat.le_trans hl.many h80) (fun ha => (left_breaks ha fun c hcm x hx => ((hg c hcm).ok.atoms x hx).2.2).symm) q7
      exact ⟨[.le d, .cl (encC cs), .cl (encI lot), .cl (encC (leftL cs lot)), .cl (encI w), .un, .un, s7, .un, .un], _, by simp [q4], .inl b, .cl (encI w), s7', rfl, rfl, f7⟩
  subst eρ
  exact ⟨s4, s7, q7, e⟩
end Lb
set_option maxHeartbeats 2000000
namespace Lb
open PySem PySem.Spec L2 Vx
theorem tr_encI (n : Nat) {c : List Int} (h : c.length ≤ sizeLine) : Tr (n + 1) (encI c) := .tup (fun d hd => by
  obtain ⟨i, _, rfl⟩ := List.mem_map.mp hd
  exact .int n i) (by rw [List.length_map]; exact h)
theorem tr_encC (n : Nat) {cs : List (List Int)} (h : ∀ c ∈ cs, c.length ≤ sizeLine) (hl : cs.length ≤ sizeLine) : Tr (n + 2) (encC cs) := .tup (fun d hd => by
  obtain ⟨c, hc, rfl⟩ := List.mem_map.mp hd
  exact tr_encI n (h c hc)) (by rw [List.length_map]; exact hl)
theorem same_C {cs : List (List Int)} (h : CsOk cs) : g__law_same 12 [encC cs, encC cs] = .ok false (.bool true) [] :=
  same 11 _ ((tr_encC 0 (fun c hc => (h.ok c hc).size) (Nat.le_trans h.many (by decide))).mono (by decide)) (by decide)
/-- more of a lot -/
def moreL (lot c : List Int) : List Int := c.filter fun x => !decide (x ∈ lot) && !decide (-x ∈ lot)
theorem two_diff {lot c : List Int} (h1 : ClOk lot) (h2 : ClOk c) : (lot ++ moreL lot c).Pairwise fun a b => absI a ≠ absI b := by
  rw [List.pairwise_append]
  refine ⟨h1.up.imp fun h => by omega, ((h2.up.sublist List.filter_sublist).imp fun h => by omega), fun a ha b hb e => ?_⟩
  have hb := (List.mem_filter.mp hb).2
  simp only [Bool.and_eq_true, Bool.not_eq_true', decide_eq_false_iff_not] at hb
  have : a = b ∨ a = -b := by unfold absI at e; split at e <;> split at e <;> omega
  rcases this with q | q
  · exact hb.1 (q ▸ ha)
  · exact hb.2 (q ▸ ha)
end Lb
set_option maxHeartbeats 2000000
namespace Lb
open PySem PySem.Spec L2 Vx
theorem more_comp {d csd hd : D} {lot c : List Int} (hz : c.length ≤ sizeLine) {s4 s7 : Sl} {it : M (List D)} {d1 : D} (hi : it [.le d, .cl csd, .cl (encI lot), .cl hd, s4, .un, .un, s7, .un, .un] = .ok (c.map .int) [.le d1, .cl csd, .cl (encI lot), .cl hd, s4, .un, .un, s7, .un, .un]) :
    mLc it (tName 8) m__law_is_lot_right_1 m__law_is_lot_right_2 [8] [.le d, .cl csd, .cl (encI lot), .cl hd, s4, .un, .un, s7, .un, .un] = .ok (.fr (.list ((moreL lot c).map .int))) [.le d1, .cl csd, .cl (encI lot), .cl hd, s4, .un, .un, s7, .un, .un] :=
  mLc_encF .int (fun x => !decide (x ∈ lot) && !decide (-x ∈ lot)) _ hi rfl hz (fun x _ => by
    have e1 := fNotIn_I x lot
    have e2 := fNotIn_I (-x) lot
    by_cases m : x ∈ lot <;> simp -implicitDefEqProofs [m__law_is_lot_right_1, e1, e2, m]) fun x _ _ => by simp -implicitDefEqProofs [m__law_is_lot_right_2]
end Lb
set_option maxHeartbeats 2000000
namespace Lb
open PySem PySem.Spec L2 Vx
theorem lr1 {g : List D → FR} {d cs lot hd : D} (e : g [cs, lot] = .ok false hd []) : sSet 3 (mCall g [.pl, .pl] (aCons (mV 1) (aCons (mV 2) aNil))) [.le d, .cl cs, .cl lot, .un, .un, .un, .un, .un, .un, .un] = .ok .nx [.le d, .cl cs, .cl lot, .cl hd, .un, .un, .un, .un, .un, .un] := by
  simp -implicitDefEqProofs [e]
theorem lr2 {g k : List D → FR} {d cs lot hd : D} (e : g [cs, lot] = .ok false hd []) (e2 : k [hd, hd] = .ok false (.bool true) []) : sIf (mNot (mTr (mCall k [.pl, .pl] (aCons (mV 3) (aCons (mCall g [.pl, .pl] (aCons (mV 1) (aCons (mV 2) aNil))) aNil))))) (sRet (mC (.bool false))) sNx [.le d, .cl cs, .cl lot, .cl hd, .un, .un, .un, .un, .un, .un] = .ok .nx [.le d, .cl cs, .cl lot, .cl hd, .un, .un, .un, .un, .un, .un] := by
  simp -implicitDefEqProofs [e, e2, truD_bool]
theorem lr3 {g k : List D → FR} {d cs lot hd : D} {m : Int} {ws : List D} {b : Bool} (e : g [cs] = .ok false (.int m) []) (f : fMax [.list [.int 4, .int m]] = some (.val (.int 4))) (e2 : k [.int 4] = .ok b (.list ws) []) : iSeqM (mCall k [.pl] (aCons (mB fMax (aCons (mLst (kCons (mC (.int 4)) (kCons (mCall g [.pl] (aCons (mV 1) aNil)) kNil))) aNil)) aNil)) [.le d, .cl cs, .cl lot, .cl hd, .un, .un, .un, .un, .un, .un] = .ok ws [.le d, .cl cs, .cl lot, .cl hd, .un, .un, .un, .un, .un, .un] := by
  cases b <;> simp -implicitDefEqProofs [e, e2, f, two_size]
theorem lr4 {g : List D → FR} {d d1 cs lot hd : D} {cl : List D} {s4 s7 : Sl} (e : g [d, .int 4, .int 3] = .ok false (.tuple cl) [d1]) : iSeqM (mCall g [.mu, .pl, .pl] (aCons (mV 0) (aCons (mC (.int 4)) (aCons (mC (.int 3)) aNil)))) [.le d, .cl cs, .cl lot, .cl hd, s4, .un, .un, s7, .un, .un] = .ok cl [.le d1, .cl cs, .cl lot, .cl hd, s4, .un, .un, s7, .un, .un] := by
  simp -implicitDefEqProofs [e]
theorem lr5 {M : M Op} {d d1 cs lot hd : D} {ml : List D} {s4 s7 : Sl} (e : M [.le d, .cl cs, .cl lot, .cl hd, s4, .un, .un, s7, .un, .un] = .ok (.fr (.list ml)) [.le d1, .cl cs, .cl lot, .cl hd, s4, .un, .un, s7, .un, .un]) : sSet 5 (mB (f1 fTuple) (aCons M aNil)) [.le d, .cl cs, .cl lot, .cl hd, s4, .un, .un, s7, .un, .un] = .ok .nx [.le d1, .cl cs, .cl lot, .cl hd, s4, .cl (.tuple ml), .un, s7, .un, .un] := by
  simp -implicitDefEqProofs [e]
theorem lr6 {d cs hd : D} {ll ml tl : List D} {s4 s7 : Sl} (z : ll.length + ml.length ≤ sizeLine) (e : fSrtK kAbs (.tuple (ll ++ ml)) = some (.fr (.list tl))) : sSet 6 (mB (f1 fTuple) (aCons (m1 (fSrtK kAbs) (m2 fAdd (mV 2) (mV 5))) aNil)) [.le d, .cl cs, .cl (.tuple ll), .cl hd, s4, .cl (.tuple ml), .un, s7, .un, .un] = .ok .nx [.le d, .cl cs, .cl (.tuple ll), .cl hd, s4, .cl (.tuple ml), .cl (.tuple tl), s7, .un, .un] := by
  simp -implicitDefEqProofs [e, z]
theorem lr7 {g : List D → FR} {d cs lot hd more two : D} {x : D} {s4 s7 : Sl} (e1 : g [cs, two] = .ok false x []) (e2 : g [hd, more] = .ok false x []) (eq : fEq x x = some (.val (.bool true))) : sRet (m2 fEq (mCall g [.pl, .pl] (aCons (mV 1) (aCons (mV 6) aNil))) (mCall g [.pl, .pl] (aCons (mV 3) (aCons (mV 5) aNil)))) [.le d, .cl cs, .cl lot, .cl hd, s4, .cl more, .cl two, s7, .un, .un] = .ok (.rt (.val (.bool true))) [.le d, .cl cs, .cl lot, .cl hd, s4, .cl more, .cl two, s7, .un, .un] := by
  simp -implicitDefEqProofs [e1, e2, eq]
theorem lot_right {h : Hnd} {n : Nat} {cs : List (List Int)} {lot : List Int} (w : h.Ok (n + 9)) (hc : CsOk cs) (hg : ∀ c ∈ cs, Good c) (hl : Good lot) : ∃ h', g__law_is_lot_right [h.d, encC cs, encI lot] = .ok false (.bool true) [Hnd.d h'] ∧ h'.Ok n := by
  obtain ⟨c, h', ec, oc, lc, w'⟩ := law_clause (h := h) (n := n) (k := 4) (m := 3) (w.mono (by omega)) (by decide) (by decide)
  rw [show ((4 : Nat) : Int) = 4 from rfl, show ((3 : Nat) : Int) = 3 from rfl] at ec
  refine ⟨h', ?_, w'⟩
  have hL := hc.left lot
  have g1 := given_lot hc hl.ok
  have l1 := law_left hc (lot := lot)
  have s1 := same_C hL
  have m1 := law_many (cs := cs) (Nat.le_trans hc.many (by decide)) fun c hcm => Nat.le_trans (hc.ok c hcm).len (by decide)
  have f4 := fMax_4 (many_4 hg)
  obtain ⟨b, w4⟩ := worlds (m := 4) (by decide)
  rw [show ((4 : Nat) : Int) = 4 from rfl] at w4
  obtain ⟨s4, s7, q7, lp⟩ := lot_loop (d := h.d) hc hg hl
  have td := two_diff hl.ok oc
  have mo : ClOk (moreL lot c) := oc.sub List.filter_sublist
  have lz : lot.length + (moreL lot c).length ≤ sizeLine := Nat.le_trans (Nat.add_le_add hl.ok.len mo.len) (by decide)
  obtain ⟨u, p⟩ := sAbs_up td
  have so := srt_abs (l := lot ++ moreL lot c) (by rw [List.length_append]; exact lz) (d := .tuple ((lot ++ moreL lot c).map .int)) rfl
  have two : ClOk (sAbs (lot ++ moreL lot c)) := ⟨fun x hx => by
    rcases List.mem_append.mp (p.mem_iff.mp hx) with m | m
    · exact hl.ok.atoms x m
    · exact mo.atoms x m, u⟩
  have g2 := given_lot hc two
  have g3 := given_lot hL mo
  rw [left_two (lot := lot) (more := moreL lot c) (fun x => by rw [p.mem_iff, List.mem_append]) fun x hx => by
    have := (List.mem_filter.mp hx).2
    simp only [Bool.and_eq_true, Bool.not_eq_true', decide_eq_false_iff_not] at this
    exact this.2] at g2
  have mc := more_comp (d := h.d) (csd := encC cs) (hd := encC (leftL cs lot)) (lot := lot) (s4 := s4) (s7 := s7) oc.size (lr4 ec)
  have fe : fEq (encC (leftL (leftL cs lot) (moreL lot c))) (encC (leftL (leftL cs lot) (moreL lot c))) = some (.val (.bool true)) :=
    fEq_refl (n := 2) (Shp.tup fun d hd => by
      obtain ⟨x, _, e⟩ := List.mem_map.mp hd
      subst e; exact shp_I x) (by decide)
  have z2 : (lot.map PyData.int).length + ((moreL lot c).map PyData.int).length ≤ sizeLine := by rw [List.length_map, List.length_map]; exact lz
  rw [List.map_append] at so
  have body : m__law_is_lot_right [.le h.d, .cl (encC cs), .cl (encI lot), .un, .un, .un, .un, .un, .un, .un] = .ok (.rt (.val (.bool true))) [.le h'.d, .cl (encC cs), .cl (encI lot), .cl (encC (leftL cs lot)), s4, .cl (encI (moreL lot c)), .cl (encI (sAbs (lot ++ moreL lot c))), s7, .un, .un] := by
    unfold m__law_is_lot_right
    rw [seq_nx (lr1 g1), seq_nx (lr2 l1 s1), seq_nx ((for_nx (lr3 m1 f4 w4)).trans lp), seq_nx (lr5 mc), seq_nx (lr6 z2 so)]
    exact lr7 g2 g3 fe
  generalize h.d = hd at body
  unfold g__law_is_lot_right
  generalize m__law_is_lot_right = M at body
  simp -implicitDefEqProofs [runD, body]
end Lb
set_option maxHeartbeats 2000000
namespace Lb
open PySem PySem.Spec L2 Vx
/-- zs are the atoms of L, each with a sign -/
theorem each_row {sub zs : List Int} (h : PySem.W.EachIs (fun x y => y = x ∨ y = -x) sub zs) (hp : ∀ x ∈ sub, 1 ≤ x ∧ x ≤ 12) (nd : sub.Nodup) : RowOk zs ∧ zs.map absI = sub := by
  have e : zs.map absI = sub := by
    induction h with
    | nil => rfl
    | @cons x y sub zs g t ih =>
      obtain ⟨p1, p2⟩ := hp x List.mem_cons_self
      rw [List.map_cons, ih (fun x hx => hp x (List.mem_cons_of_mem _ hx)) (List.nodup_cons.mp nd).2]
      congr 1
      unfold absI; split <;> omega
  refine ⟨⟨fun y hy => ?_, List.pairwise_map.mp (e ▸ nd)⟩, e⟩
  have := hp (absI y) (e ▸ List.mem_map.mpr ⟨y, hy, rfl⟩)
  unfold absI at this
  split at this <;> omega
def sgn (x : Int) : Int := if 0 < x then 1 else -1
/-- back is the row back from own -/
structure BackOk (own back : List Int) : Prop where
  len : back.length = own.length
  at_ : ∀ k, k < own.length → back.getD (absI (own.getD k 0) - 1).toNat 0 = ((k : Int) + 1) * sgn (own.getD k 0)
theorem back_lit {own back : List Int} (hb : BackOk own back) (ho : ∀ x ∈ own, x ≠ 0) {x : Int} (h0 : x ≠ 0) (hx : absI x ≤ own.length) : rowL back (rowL own x) = x := by
  have hk : (absI x - 1).toNat < own.length := by unfold absI at *; split at hx <;> split <;> omega
  have hat := hb.at_ _ hk
  have hne : own.getD (absI x - 1).toNat 0 ≠ 0 := ho _ (List.mem_of_getElem? (getD_at hk))
  have hxp : 1 ≤ absI x := by unfold absI; split <;> omega
  have hke : (((absI x - 1).toNat : Int) + 1) = absI x := by omega
  rw [hke] at hat
  have ha := rowL_abs (row := own) (x := x)
  unfold rowL at ha ⊢
  generalize own.getD (absI x - 1).toNat 0 = y at *
  by_cases p : 0 < x
  · rw [if_pos p] at ha ⊢
    have ex : absI x = x := by unfold absI; split <;> omega
    rw [hat, ex]
    unfold sgn
    by_cases q : 0 < y
    · rw [if_pos q, if_pos q]; omega
    · rw [if_neg q, if_neg q]; omega
  · rw [if_neg p] at ha ⊢
    have ex : absI x = -x := by unfold absI; split <;> omega
    rw [ha, hat, ex]
    unfold sgn
    by_cases q : 0 < y
    · rw [if_neg (show ¬ 0 < -y by omega), if_pos q]; omega
    · rw [if_pos (show 0 < -y by omega), if_neg q]; omega
end Lb
set_option maxHeartbeats 2000000
namespace Lb
open PySem PySem.Spec L2 Vx
theorem turn_back {cs : List (List Int)} {own back : List Int} (hc : CsOk cs) (ho : RowOk own) (hb : BackOk own back) (hr : RowOk back) (hl : ∀ c ∈ cs, ∀ x ∈ c, absI x ≤ own.length) (hl2 : ∀ c ∈ turnL own cs, ∀ x ∈ c, absI x ≤ back.length) : turnL back (turnL own cs) = cs := by
  have h2 : CsOk (turnL own cs) := hc.turn ho hl
  unfold turnL at hl2 h2 ⊢
  rw [List.map_map]
  have : ∀ c ∈ cs, ((fun c => sAbs (c.map (rowL back))) ∘ fun c => sAbs (c.map (rowL own))) c = c := fun c hcm => by
    show sAbs ((sAbs (c.map (rowL own))).map (rowL back)) = c
    have hok := hc.ok c hcm
    have hd := sAbs (c.map (rowL own))
    have d1 := row_clause ho hok (hl c hcm)
    obtain ⟨u1, p1⟩ := sAbs_up d1.1
    have hcl : ClOk (sAbs (c.map (rowL own))) := turn_clause ho hok (hl c hcm)
    have d2 := row_clause hr hcl (hl2 _ (List.mem_map.mpr ⟨c, hcm, rfl⟩))
    obtain ⟨u2, p2⟩ := sAbs_up d2.1
    have bl : ∀ x ∈ c, rowL back (rowL own x) = x := fun x hx => back_lit hb (fun y hy => (ho.atoms y hy).2.2) (hok.atoms x hx).2.2 (hl c hcm x hx)
    refine up_ext u2 hok.up (fun x hx => ?_) fun x hx => ?_
    · obtain ⟨y, hy, rfl⟩ := List.mem_map.mp (p2.mem_iff.mp hx)
      obtain ⟨z, hz, rfl⟩ := List.mem_map.mp (p1.mem_iff.mp hy)
      rw [bl z hz]; exact hz
    · refine p2.mem_iff.mpr (List.mem_map.mpr ⟨rowL own x, p1.mem_iff.mpr (List.mem_map.mpr ⟨x, hx, rfl⟩), bl x hx⟩)
  rw [List.map_congr_left this, List.map_id']
/-- the world along own -/
def alongW (own w : List Int) : List Int := own.map fun y => if 0 < y then w.getD (absI y - 1).toNat 0 else 1 - w.getD (absI y - 1).toNat 0
theorem lit_along {own w : List Int} (hb : ∀ b ∈ w, b = 0 ∨ b = 1) (ho : ∀ y ∈ own, y ≠ 0 ∧ absI y ≤ w.length) {x : Int} (h0 : x ≠ 0) (hx : absI x ≤ own.length) : litB w (rowL own x) = litB (alongW own w) x := by
  have hk : (absI x - 1).toNat < own.length := by unfold absI at *; split at hx <;> split <;> omega
  obtain ⟨y0, y1⟩ := ho _ (List.mem_of_getElem? (getD_at hk))
  have ea : (alongW own w).getD (absI x - 1).toNat 0 = (fun y => if 0 < y then w.getD (absI y - 1).toNat 0 else 1 - w.getD (absI y - 1).toNat 0) (own.getD (absI x - 1).toNat 0) := by
    rw [List.getD_eq_getElem?_getD, alongW, List.getElem?_map, getD_at hk]; rfl
  unfold litB
  rw [ea, rowL_abs]
  unfold rowL
  generalize own.getD (absI x - 1).toNat 0 = y at *
  have hyp : 1 ≤ absI y := by unfold absI; split <;> omega
  have hw : (absI y - 1).toNat < w.length := by omega
  have hbb := hb _ (List.mem_of_getElem? (getD_at hw))
  dsimp only
  rw [decide_eq_decide]
  clear ea hk
  revert hbb
  generalize w.getD (absI y - 1).toNat 0 = b
  intro hbb
  by_cases p : 0 < x <;> by_cases q : 0 < y
  · simp only [p, q, if_true]
  · have : ¬ 0 < y := q
    simp only [p, q, if_true, if_false]
    constructor <;> intro h <;> omega
  · have : ¬ 0 < -y := by omega
    simp only [p, q, this, if_true, if_false]
  · have : 0 < -y := by omega
    simp only [p, q, this, if_true, if_false]
    constructor <;> intro h <;> omega
theorem breaks_along {cs : List (List Int)} {own w : List Int} (hc : CsOk cs) (hr : RowOk own) (hl : ∀ c ∈ cs, ∀ x ∈ c, absI x ≤ own.length) (hb : ∀ b ∈ w, b = 0 ∨ b = 1) (ho : ∀ y ∈ own, absI y ≤ w.length) : breaksB (turnL own cs) w = breaksB cs (alongW own w) := by
  unfold breaksB turnL
  rw [List.any_map]
  refine any_congr fun c hcm => ?_
  show (!holdsB (sAbs (c.map (rowL own))) w) = !holdsB c (alongW own w)
  congr 1
  have hok := hc.ok c hcm
  obtain ⟨u1, p1⟩ := sAbs_up (row_clause hr hok (hl c hcm)).1
  unfold holdsB
  have e : (sAbs (c.map (rowL own))).any (litB w) = (c.map (rowL own)).any (litB w) := by
    rw [Bool.eq_iff_iff, List.any_eq_true, List.any_eq_true]
    exact ⟨fun ⟨x, h1, h2⟩ => ⟨x, p1.mem_iff.mp h1, h2⟩, fun ⟨x, h1, h2⟩ => ⟨x, p1.mem_iff.mpr h1, h2⟩⟩
  rw [e, List.any_map]
  exact any_congr fun x hx => lit_along hb (fun y hy => ⟨(hr.atoms y hy).2.2, ho y hy⟩) (hok.atoms x hx).2.2 (hl c hcm x hx)
end Lb
set_option maxHeartbeats 2000000
namespace Lb
open PySem PySem.Spec L2 Vx
theorem worlds_bits : ∀ (m : Nat) (w : List Int), w ∈ worldsL m → ∀ b ∈ w, b = 0 ∨ b = 1
  | 0, w, h => by
    rcases List.mem_cons.mp h with e | m
    · subst e; exact fun b hb => nomatch hb
    · cases m
  | m + 1, w, h => by
    obtain ⟨v, hv, hm⟩ := List.mem_flatMap.mp h
    have ih := worlds_bits m v hv
    intro b hb
    rcases List.mem_cons.mp hm with e | hm
    · subst e
      rcases List.mem_append.mp hb with q | q
      · exact ih b q
      · exact .inl (List.mem_singleton.mp q)
    · rcases List.mem_cons.mp hm with e | hm
      · subst e
        rcases List.mem_append.mp hb with q | q
        · exact ih b q
        · exact .inr (List.mem_singleton.mp q)
      · cases hm
theorem worlds_all : ∀ (m : Nat) (w : List Int), w.length = m → (∀ b ∈ w, b = 0 ∨ b = 1) → w ∈ worldsL m
  | 0, w, h, _ => by
    have : w = [] := List.length_eq_zero_iff.mp h
    subst this; exact List.mem_singleton.mpr rfl
  | m + 1, w, h, hb => by
    have hne : w ≠ [] := fun e => by rw [e] at h; cases h
    have e := (List.dropLast_concat_getLast hne)
    have ih := worlds_all m w.dropLast (by rw [List.length_dropLast]; omega) fun b hb' => hb b ((List.dropLast_sublist w).subset hb')
    refine List.mem_flatMap.mpr ⟨w.dropLast, ih, ?_⟩
    rcases hb _ (List.getLast_mem hne) with q | q
    · rw [q] at e
      exact e ▸ (by simp)
    · rw [q] at e
      exact e ▸ (by simp)
end Lb
set_option maxHeartbeats 2000000
namespace Lb
open PySem PySem.Spec L2 Vx
def m__law_is_turned_right_1 : M Op :=
    (mIf (mT (m2 fGt (mV 12) (mC (.int 0)))) (m2 fIx (mV 8) (m2 fSub (mB (f1 fAbs) (aCons (mV 12) aNil)) (mC (.int 1)))) (m2 fSub (mC (.int 1)) (m2 fIx (mV 8) (m2 fSub (mB (f1 fAbs) (aCons (mV 12) aNil)) (mC (.int 1))))))
def m__law_is_turned_right_2 : M Fl :=
    (sIf (mT (m2 fIn (mB (f1 fTuple) (aCons (mLc (iSeqM (mV 5)) (tName 12) tYesM m__law_is_turned_right_1 [12]) aNil)) (mV 13))) (sDrop (meApp 14 (mK (mV 8)))) sNx)
def m__law_is_turned_right_3 : M Fl :=
    (sSetIx 6 (mK (m2 fMul (m2 fAdd (mV 11) (mC (.int 1))) (mIf (mT (m2 fGt (mV 12) (mC (.int 0)))) (mC (.int 1)) (m1 fNeg (mC (.int 1)))))) (m2 fSub (mB (f1 fAbs) (aCons (mV 12) aNil)) (mC (.int 1))))
def m__law_is_turned_right_4 : M Op :=
    (m2 fMul (mCall g__law_any [.mu, .pl] (aCons (mV 0) (aCons (mLst (kCons (mC (.int 1)) (kCons (m1 fNeg (mC (.int 1))) kNil))) aNil))) (mV 16))
def m__law_is_turned_right_5 : M Op :=
    (m2 fMul (m2 fIx (mV 2) (m2 fSub (mB (f1 fAbs) (aCons (mV 12) aNil)) (mC (.int 1)))) (mIf (mT (m2 fGt (mV 12) (mC (.int 0)))) (mC (.int 1)) (m1 fNeg (mC (.int 1)))))
def m__law_is_turned_right_6 : M Op :=
    (mCall g__law_joined [.pl] (aCons (mLc (iSeqM (mV 15)) (tName 12) tYesM m__law_is_turned_right_5 [12]) aNil))
def m__law_is_turned_right_7 : M Op :=
    (m2 fMul (mCall g__law_any [.mu, .pl] (aCons (mV 0) (aCons (mLst (kCons (mC (.int 1)) (kCons (m1 fNeg (mC (.int 1))) kNil))) aNil))) (mV 16))
def m__law_is_turned_right : M Fl :=
    (sSeq (sPar 9 10 (mCall g__law_many [.pl] (aCons (mV 1) aNil)) (mCall g__law_mixed [.mu, .pl] (aCons (mV 0) (aCons (mRg (mC (.int 1)) (mC (.int 13))) aNil))))
    (sSeq (sSet 2 (mB (f1 fTuple) (aCons (mLc (iSeqM (mSl fSl (mV 10) bNo (bAt (mV 9)))) (tName 16) tYesM m__law_is_turned_right_7 [16]) aNil)))
    (sSeq (sSet 3 (mCall g_turned_atoms [.pl, .pl] (aCons (mV 1) (aCons (mV 2) aNil))))
    (sSeq (sSet 4 (mLc (iSeqM (mV 1)) (tName 15) tYesM m__law_is_turned_right_6 [15]))
    (sSeq (sIf (mNot (mTr (mCall (g__law_same 12) [.pl, .pl] (aCons (mV 3) (aCons (mB (f1 fTuple) (aCons (mV 4) aNil)) aNil))))) (sRet (mC (.bool false))) sNx)
    (sSeq (sSet 5 (mB (f1 fTuple) (aCons (mLc (iSeqM (mCall g__law_mixed [.mu, .pl] (aCons (mV 0) (aCons (mRg (mC (.int 1)) (m2 fAdd (mV 9) (mC (.int 1)))) aNil)))) (tName 16) tYesM m__law_is_turned_right_4 [16]) aNil)))
    (sSeq (sSet 6 (m2F fRep (mLst (kCons (mC (.int 0)) kNil)) (mV 9)))
    (sSeq (sFor (iFnK enm (kiCons (mV 5) kiNil)) (tTup (tsCons (tName 11) (tsCons (tName 12) tsNil))) m__law_is_turned_right_3)
    (sSeq (sSet 7 (mCall g_turned_atoms [.pl, .pl] (aCons (mV 1) (aCons (mV 5) aNil))))
    (sSeq (sIf (mAnd (mT (m2 fEq (mCall g__law_many [.pl] (aCons (mV 7) aNil)) (mV 9))) (mT (m2 fNe (mCall g_turned_atoms [.pl, .pl] (aCons (mV 7) (aCons (mB (f1 fTuple) (aCons (mV 6) aNil)) aNil))) (mV 1)))) (sRet (mC (.bool false))) sNx)
    (sSeq (sIf (mT (m2 fNe (mCall g__law_many [.pl] (aCons (mV 7) aNil)) (mV 9))) (sRet (mC (.bool true))) sNx)
    (sSeq (sPar 13 14 (mCall g__law_models [.pl] (aCons (mV 1) aNil)) (mLst kNil))
    (sSeq (sFor (iSeqM (mCall g__law_worlds [.pl] (aCons (mV 9) aNil))) (tName 8) m__law_is_turned_right_2)
    (sRet (mCall (g__law_same 12) [.pl, .pl] (aCons (mCall g_models_of [.pl] (aCons (mV 7) aNil)) (aCons (mV 14) aNil)))))))))))))))))
def g__law_is_turned_right : List D → FR := runD [.mu, .pl] 15 m__law_is_turned_right
/-- the slots of the turning -/
abbrev tEv (d : D) (cs : D) (s2 s3 s4 s5 s6 s7 s8 s9 s10 s11 s12 s13 s14 s15 s16 : Sl) : Ev := [.le d, .cl cs, s2, s3, s4, s5, s6, s7, s8, s9, s10, s11, s12, s13, s14, s15, s16]
theorem t_comp {v16 : Sl} {h : Hnd} {n : Nat} {E : Hnd → Ev} {it : M (List D)} {ρ : Ev} {L : List Int} (hi : it ρ = .ok (L.map .int) (E h)) (hE : ∀ s, (E s)[16]? = some .un) (hz : L.length ≤ 12) (hL : ∀ x ∈ L, 1 ≤ x ∧ x ≤ 12) (w : h.Ok (n + L.length))
    (e : M Op) (he : ∀ (s s' : Hnd) (dd x : Int), g__law_any [s.d, .list [.int 1, .int (-1)]] = .ok false (.int dd) [s'.d] → okMul dd x = true → mK e ((E s).set 16 (.cl (.int x))) = .ok (.int (dd * x)) ((E s').set 16 (.cl (.int x)))) :
    ∃ (zs : List Int) (sub : List Int) (h' : Hnd), mLc it (tName 16) tYesM e [16] ρ = .ok (.fr (.list (zs.map .int))) (E h') ∧ sub.Sublist L ∧ PySem.W.EachIs (fun x y => y = x ∨ y = -x) sub zs ∧ h'.Ok n := by
  obtain ⟨zs, sub, h3, c1, q1, q2, w3⟩ := mLc_st (it := it) (tt := tYesM) (e := e) (v := 16) (ρ := ρ) E (fun m s => s.Ok (n + m)) (fun x y : Int => y = x ∨ y = -x) PyData.int PyData.int (s := h) (l := L) hE hi (Nat.le_trans hz (by decide)) w fun x hx m s ws => by
    obtain ⟨d, s', e', dd, w'⟩ := sign (h := s) (n := n + m) ws
    obtain ⟨x1, x2⟩ := hL x hx
    refine ⟨s', w', .inl ⟨_, d * x, rfl, he s s' d x e' (okMul_of (a := 8) (b := 8) (by omega) (by omega) (by decide)), ?_⟩⟩
    rcases dd with q | q <;> subst q <;> omega
  exact ⟨zs, sub, h3, c1, q1, q2, w3⟩
end Lb
set_option maxHeartbeats 2000000
namespace Lb
open PySem PySem.Spec L2 Vx
theorem twelve_size : 12 ≤ sizeLine := by decide
theorem tr1 {g k : List D → FR} {d d1 cs : D} {m : Int} {t : List D} (e : g [cs] = .ok false (.int m) []) (e2 : k [d, .list ((upto 12).map .int)] = .ok true (.list t) [d1]) :
    sPar 9 10 (mCall g [.pl] (aCons (mV 1) aNil)) (mCall k [.mu, .pl] (aCons (mV 0) (aCons (mRg (mC (.int 1)) (mC (.int 13))) aNil))) (tEv d cs .un .un .un .un .un .un .un .un .un .un .un .un .un .un .un) = .ok .nx (tEv d1 cs .un .un .un .un .un .un .un (.cl (.int m)) (.ow (.list t)) .un .un .un .un .un .un) := by
  have rg := okRg_of (i := 13) (by decide) (by decide)
  have ru := rngD_upto 12
  generalize (upto 12).map PyData.int = u at *
  simp -implicitDefEqProofs [rg, ru, okRg_1, e, e2]
/-- a signed row is drawn -/
theorem t_row {h : Hnd} {n : Nat} {E : Hnd → Ev} {it : M (List D)} {ρ : Ev} {L : List Int} (hi : it ρ = .ok (L.map .int) (E h)) (hE : ∀ s, (E s)[16]? = some .un) (hz : L.length ≤ 12) (hL : ∀ x ∈ L, 1 ≤ x ∧ x ≤ 12) (nd : L.Nodup) (w : h.Ok (n + L.length))
    (e : M Op) (he : ∀ (s s' : Hnd) (dd x : Int), g__law_any [s.d, .list [.int 1, .int (-1)]] = .ok false (.int dd) [s'.d] → okMul dd x = true → mK e ((E s).set 16 (.cl (.int x))) = .ok (.int (dd * x)) ((E s').set 16 (.cl (.int x)))) :
    ∃ (zs : List Int) (h' : Hnd), mLc it (tName 16) tYesM e [16] ρ = .ok (.fr (.list (zs.map .int))) (E h') ∧ RowOk zs ∧ zs.map absI = L ∧ h'.Ok n := by
  obtain ⟨zs, h3, c1, q2, w3⟩ := mLc_stM (it := it) (e := e) (v := 16) (ρ := ρ) E (fun m s => s.Ok (n + m)) (fun x y : Int => y = x ∨ y = -x) PyData.int PyData.int (s := h) (l := L) (x0 := .un) rfl hE hi (Nat.le_trans hz (by decide)) w fun x hx m s ws => by
    obtain ⟨d, s', e', dd, w'⟩ := sign (h := s) (n := n + m) ws
    obtain ⟨x1, x2⟩ := hL x hx
    refine ⟨s', d * x, w', he s s' d x e' (okMul_of (a := 8) (b := 8) (by omega) (by omega) (by decide)), ?_⟩
    rcases dd with q | q <;> subst q <;> omega
  obtain ⟨r1, r2⟩ := each_row q2 hL nd
  exact ⟨zs, h3, c1, r1, r2, w3⟩
theorem tr2i {d cs : D} {m : Nat} {t : List Int} : iSeqM (mSl fSl (mV 10) bNo (bAt (mV 9))) (tEv d cs .un .un .un .un .un .un .un (.cl (.int (m : Nat))) (.ow (.list (t.map .int))) .un .un .un .un .un .un) = .ok ((t.take m).map .int) (tEv d cs .un .un .un .un .un .un .un (.cl (.int (m : Nat))) (.ow (.list (t.map .int))) .un .un .un .un .un .un) := by
  have ct := cut_to (t.map PyData.int) m
  rw [← List.map_take] at ct
  generalize (t.take m).map PyData.int = t3 at *
  simp -implicitDefEqProofs [ct]
theorem tr2 {M : M Op} {d d1 cs s9 s10 : _} {ml : List D} (e : M (tEv d cs .un .un .un .un .un .un .un s9 s10 .un .un .un .un .un .un) = .ok (.fr (.list ml)) (tEv d1 cs .un .un .un .un .un .un .un s9 s10 .un .un .un .un .un .un)) : sSet 2 (mB (f1 fTuple) (aCons M aNil)) (tEv d cs .un .un .un .un .un .un .un s9 s10 .un .un .un .un .un .un) = .ok .nx (tEv d1 cs (.cl (.tuple ml)) .un .un .un .un .un .un s9 s10 .un .un .un .un .un .un) := by
  simp -implicitDefEqProofs [e]
theorem tr3 {g : List D → FR} {d cs row hd : D} {s9 s10 : Sl} (e : g [cs, row] = .ok false hd []) : sSet 3 (mCall g [.pl, .pl] (aCons (mV 1) (aCons (mV 2) aNil))) (tEv d cs (.cl row) .un .un .un .un .un .un s9 s10 .un .un .un .un .un .un) = .ok .nx (tEv d cs (.cl row) (.cl hd) .un .un .un .un .un s9 s10 .un .un .un .un .un .un) := by
  simp -implicitDefEqProofs [e]
theorem tr4 {d : D} {s3 s9 s10 : Sl} {cs : List (List Int)} {row : List Int} (hc : CsOk cs) (hr : RowOk row) (hl : ∀ c ∈ cs, ∀ x ∈ c, absI x ≤ row.length) :
    sSet 4 (mLc (iSeqM (mV 1)) (tName 15) tYesM m__law_is_turned_right_6 [15]) (tEv d (encC cs) (.cl (encI row)) s3 .un .un .un .un .un s9 s10 .un .un .un .un .un .un) = .ok .nx (tEv d (encC cs) (.cl (encI row)) s3 (.ow (.list ((turnL row cs).map encI))) .un .un .un .un s9 s10 .un .un .un .un .un .un) := by
  have c1 : mLc (iSeqM (mV 1)) (tName 15) tYesM m__law_is_turned_right_6 [15] (tEv d (encC cs) (.cl (encI row)) s3 .un .un .un .un .un s9 s10 .un .un .un .un .un .un) = .ok (.fr (.list (cs.map fun c => encI (sAbs (c.map (rowL row)))))) (tEv d (encC cs) (.cl (encI row)) s3 .un .un .un .un .un s9 s10 .un .un .un .un .un .un) :=
    mLc_encM encI _ (by simp -implicitDefEqProofs) rfl (Nat.le_trans hc.many (by decide)) fun c hcm => by
      have hok := hc.ok c hcm
      have c2 : mLc (iSeqM (mV 15)) (tName 12) tYesM m__law_is_turned_right_5 [12] (tEv d (encC cs) (.cl (encI row)) s3 .un .un .un .un .un s9 s10 .un .un .un .un (.cl (encI c)) .un) = .ok (.fr (.list (c.map fun x => .int (rowL row x)))) (tEv d (encC cs) (.cl (encI row)) s3 .un .un .un .un .un s9 s10 .un .un .un .un (.cl (encI c)) .un) :=
        mLc_encM .int _ (by simp -implicitDefEqProofs) rfl hok.size fun x hx => by
          have hx0 := (hok.atoms x hx).2.2
          have hxl := hl c hcm x hx
          have hxp : 1 ≤ absI x := by unfold absI; split <;> omega
          have ix := rowIx (row := row) (k := absI x - 1) (by omega) (by omega)
          have hm : row.getD (absI x - 1).toNat 0 ∈ row := List.mem_of_getElem? (getD_at (by omega))
          have ha := hr.atoms _ hm
          unfold rowL
          generalize row.getD (absI x - 1).toNat 0 = y at *
          have m1 := fMul_int (i := y) (j := 1) (okMul_of (a := 8) (b := 8) (by omega) (by decide) (by decide))
          have m2 := fMul_int (i := y) (j := -1) (okMul_of (a := 8) (b := 8) (by omega) (by decide) (by decide))
          have e2 : y * -1 = -y := by omega
          rw [e2] at m2
          by_cases p : 0 < x
          · simp -implicitDefEqProofs [m__law_is_turned_right_5, p, ix, m1]
          · simp -implicitDefEqProofs [m__law_is_turned_right_5, p, ix, m2, neg1]
      have hm2 : (c.map fun x => PyData.int (rowL row x)) = (c.map (rowL row)).map .int := by rw [List.map_map]; rfl
      rw [hm2] at c2
      obtain ⟨r1, r2⟩ := row_clause hr hok (hl c hcm)
      have ej := law_joined (l := c.map (rowL row)) (by rw [List.length_map]; exact Nat.le_trans hok.len (by decide)) r1 fun x hx => (r2 x hx).2.2
      generalize c.map (rowL row) = cl at c2 ej
      simp -implicitDefEqProofs [m__law_is_turned_right_6, c2, ej]
  have hm : (cs.map fun c => encI (sAbs (c.map (rowL row)))) = (turnL row cs).map encI := by unfold turnL; rw [List.map_map]; rfl
  rw [hm] at c1
  generalize (turnL row cs).map encI = r at *
  simp -implicitDefEqProofs [c1]
theorem tr5 {k : List D → FR} {d cs : D} {hd : List D} {s2 s9 s10 : Sl} (e2 : k [.tuple hd, .tuple hd] = .ok false (.bool true) []) : sIf (mNot (mTr (mCall k [.pl, .pl] (aCons (mV 3) (aCons (mB (f1 fTuple) (aCons (mV 4) aNil)) aNil))))) (sRet (mC (.bool false))) sNx (tEv d cs s2 (.cl (.tuple hd)) (.ow (.list hd)) .un .un .un .un s9 s10 .un .un .un .un .un .un) = .ok .nx (tEv d cs s2 (.cl (.tuple hd)) (.ow (.list hd)) .un .un .un .un s9 s10 .un .un .un .un .un .un) := by
  simp -implicitDefEqProofs [e2, truD_bool]
theorem tr6i {g : List D → FR} {d d1 cs : D} {m : Nat} {t : List Int} {s2 s3 s4 s10 : Sl} (hm : m ≤ 12) (e : g [d, .list ((upto m).map .int)] = .ok true (.list (t.map .int)) [d1]) :
    iSeqM (mCall g [.mu, .pl] (aCons (mV 0) (aCons (mRg (mC (.int 1)) (m2 fAdd (mV 9) (mC (.int 1)))) aNil))) (tEv d cs s2 s3 s4 .un .un .un .un (.cl (.int (m : Nat))) s10 .un .un .un .un .un .un) = .ok (t.map .int) (tEv d1 cs s2 s3 s4 .un .un .un .un (.cl (.int (m : Nat))) s10 .un .un .un .un .un .un) := by
  have rg := okRg_of (i := (m : Int) + 1) (by omega) (by omega)
  have ru := rngD_upto m
  generalize (upto m).map PyData.int = u at *
  simp -implicitDefEqProofs [rg, ru, okRg_1, e]
theorem tr6 {M : M Op} {d d1 cs s2 s3 s4 s9 s10 : _} {ml : List D} (e : M (tEv d cs s2 s3 s4 .un .un .un .un s9 s10 .un .un .un .un .un .un) = .ok (.fr (.list ml)) (tEv d1 cs s2 s3 s4 .un .un .un .un s9 s10 .un .un .un .un .un .un)) : sSet 5 (mB (f1 fTuple) (aCons M aNil)) (tEv d cs s2 s3 s4 .un .un .un .un s9 s10 .un .un .un .un .un .un) = .ok .nx (tEv d1 cs s2 s3 s4 (.cl (.tuple ml)) .un .un .un s9 s10 .un .un .un .un .un .un) := by
  simp -implicitDefEqProofs [e]
end Lb
set_option maxHeartbeats 2000000
namespace Lb
open PySem PySem.Spec L2 Vx
theorem fRep_n (d : D) {k : Nat} (h : k ≤ 1000) : fRep (.list [d]) (.int (k : Nat)) = some (.fr (.list (List.replicate k d))) := by
  show (if (okIx (k : Nat) && decide ([d].length * (k : Int).toNat ≤ sizeLine)) = true then some (Op.fr (.list (List.replicate (k : Int).toNat [d]).flatten)) else none) = _
  have z : [d].length * (k : Int).toNat ≤ sizeLine := Nat.le_trans (show _ ≤ 1000 by simp; omega) (by decide)
  rw [if_pos (by rw [Bool.and_eq_true]; exact ⟨okIx_of (by omega) (by omega), decide_eq_true z⟩)]
  have : (List.replicate (k : Int).toNat [d]).flatten = List.replicate k d := by
    rw [show (k : Int).toNat = k from rfl]
    clear h z
    induction k with
    | zero => rfl
    | succ k ih => rw [List.replicate_succ, List.flatten_cons, ih]; rfl
  rw [this]
theorem tr7 {d cs : D} {m : Nat} (hm : m ≤ 12) {s2 s3 s4 s5 s10 : Sl} : sSet 6 (m2F fRep (mLst (kCons (mC (.int 0)) kNil)) (mV 9)) (tEv d cs s2 s3 s4 s5 .un .un .un (.cl (.int (m : Nat))) s10 .un .un .un .un .un .un) = .ok .nx (tEv d cs s2 s3 s4 s5 (.ow (.list ((List.replicate m 0).map .int))) .un .un (.cl (.int (m : Nat))) s10 .un .un .un .un .un .un) := by
  have f := fRep_n (.int 0) (k := m) (by omega)
  have e : (List.replicate m (0 : Int)).map PyData.int = List.replicate m (.int 0) := by simp
  rw [e]
  generalize List.replicate m (PyData.int 0) = r at *
  simp -implicitDefEqProofs [f, one_size]
theorem absI_one {x : Int} (h : x ≠ 0) : 1 ≤ absI x := by unfold absI; split <;> omega
theorem tr8 {d cs : D} {s2 s3 s4 s9 s10 : Sl} {own : List Int} (ho : RowOk own) (hm : ∀ y ∈ own, absI y ≤ own.length) : ∃ back s11 s12, BackOk own back ∧ wipable (some s12) = true ∧
    sFor (iFnK enm (kiCons (mV 5) kiNil)) (Vx.tTup (tsCons (tName 11) (tsCons (tName 12) tsNil))) m__law_is_turned_right_3 (tEv d cs s2 s3 s4 (.cl (encI own)) (.ow (.list ((List.replicate own.length 0).map .int))) .un .un s9 s10 .un .un .un .un .un .un) = .ok .nx (tEv d cs s2 s3 s4 (.cl (encI own)) (.ow (.list (back.map .int))) .un .un s9 s10 s11 s12 .un .un .un .un) := by
  have hl12 := ho.len
  let P : Nat → Ev → Prop := fun i ρ => ∃ (bk : List Int) (s11 s12 : Sl), ρ = tEv d cs s2 s3 s4 (.cl (encI own)) (.ow (.list (bk.map .int))) .un .un s9 s10 s11 s12 .un .un .un .un ∧ bk.length = own.length ∧ (∀ k, k < i → k < own.length → bk.getD (absI (own.getD k 0) - 1).toNat 0 = ((k : Int) + 1) * sgn (own.getD k 0)) ∧ free (some s11) = true ∧ free (some s12) = true ∧ wipable (some s12) = true
  obtain ⟨ρ', e, bk, s11, s12, eρ, q1, q2, _, _, q5⟩ := forI_inv (t := Vx.tTup (tsCons (tName 11) (tsCons (tName 12) tsNil))) (b := m__law_is_turned_right_3) (P := P) (enumD 0 (own.map .int)) 0 _ ⟨List.replicate own.length 0, .un, .un, rfl, by simp, fun k h => absurd h (Nat.not_lt_zero _), rfl, rfl, rfl⟩ fun i dd ρ hd hp => by
    obtain ⟨bk, s11, s12, eρ, l1, h1, f1', f2', _⟩ := hp
    rw [Nat.zero_add] at h1 ⊢
    subst eρ
    rw [enum_enc, List.getElem?_map] at hd
    cases hci : own.zipIdx[i]? with
    | none => rw [hci] at hd; cases hd
    | some q =>
      rw [hci] at hd
      obtain ⟨y, k⟩ := q
      have hd : PyData.tuple [.int (k : Nat), .int y] = dd := Option.some.inj hd
      subst hd
      have hk : k = i ∧ own[i]? = some y := by
        rw [List.getElem?_zipIdx] at hci
        cases ho : own[i]? with
        | none => rw [ho] at hci; cases hci
        | some z => rw [ho] at hci; simp at hci; exact ⟨by omega, by rw [hci.1]⟩
      obtain ⟨rfl, hy⟩ := hk
      have hym := List.mem_of_getElem? hy
      have hkl := (List.getElem?_eq_some_iff.mp hy).1
      obtain ⟨y1, y2, y0⟩ := ho.atoms y hym
      have yl := hm y hym
      have ya := absI_one y0
      have hyg : own.getD k 0 = y := by rw [List.getD_eq_getElem?_getD, hy]; rfl
      have hmul : fMul (.int ((k : Int) + 1)) (.int (sgn y)) = some (.val (.int (((k : Int) + 1) * sgn y))) := fMul_int (okMul_of (a := 8) (b := 8) (by omega) (by unfold sgn; split <;> decide) (by decide))
      have hix := ixN_pos (n := bk.length) (i := absI y - 1) (by omega) (by omega)
      refine ⟨tEv d cs s2 s3 s4 (.cl (encI own)) (.ow (.list (bk.map .int))) .un .un s9 s10 (.cl (.int (k : Nat))) (.cl (.int y)) .un .un .un .un, tEv d cs s2 s3 s4 (.cl (encI own)) (.ow (.list ((bk.set (absI y - 1).toNat (((k : Int) + 1) * sgn y)).map .int))) .un .un s9 s10 (.cl (.int (k : Nat))) (.cl (.int y)) .un .un .un .un, by simp [f1', f2'], .inl ?_, _, _, _, rfl, by rw [List.length_set]; exact l1, fun j hj hjl => ?_, rfl, rfl, rfl⟩
      · rw [List.map_set]
        generalize ((k : Int) + 1) * sgn y = z at *
        by_cases p : 0 < y
        · rw [show sgn y = 1 from if_pos p] at hmul
          simp -implicitDefEqProofs [m__law_is_turned_right_3, sSetIx, p, hmul, lsS, isI, hix]
        · rw [show sgn y = -1 from if_neg p] at hmul
          simp -implicitDefEqProofs [m__law_is_turned_right_3, sSetIx, p, hmul, lsS, isI, hix, neg1]
      · rw [List.getD_eq_getElem?_getD, List.getElem?_set]
        by_cases hjk : j = k
        · subst hjk
          rw [hyg, if_pos rfl, if_pos (by omega)]; rfl
        · have hjl' : j < k := by omega
          have := h1 j hjl' hjl
          rw [List.getD_eq_getElem?_getD] at this
          rw [if_neg, this]
          intro e
          have hmj := getD_at hjl
          have ne := List.pairwise_iff_getElem.mp ho.diff j k hjl hkl hjl'
          have e1 : own[j] = own.getD j 0 := by rw [List.getD_eq_getElem?_getD, List.getElem?_eq_getElem hjl]; rfl
          have e2 : own[k] = y := by rw [← hyg, List.getD_eq_getElem?_getD, List.getElem?_eq_getElem hkl]; rfl
          rw [e1, e2] at ne
          have hj0 := absI_one (ho.atoms _ (List.mem_of_getElem? hmj)).2.2
          omega
  rw [Nat.zero_add, enumD_len, List.length_map] at q2
  subst eρ
  refine ⟨bk, s11, s12, ⟨q1, fun k hk => q2 k hk hk⟩, q5, ?_⟩
  generalize (List.replicate own.length (0 : Int)).map PyData.int = r0 at *
  have hi : iFnK enm (kiCons (mV 5) kiNil) (tEv d cs s2 s3 s4 (.cl (encI own)) (.ow (.list r0)) .un .un s9 s10 .un .un .un .un .un .un) = .ok (enumD 0 (own.map .int)) (tEv d cs s2 s3 s4 (.cl (encI own)) (.ow (.list r0)) .un .un s9 s10 .un .un .un .un .un .un) := by
    simp -implicitDefEqProofs
  rw [for_nx hi]; exact e
/-- the row back is a row -/
theorem back_row {own back : List Int} (ho : RowOk own) (hb : BackOk own back) (hp : (own.map absI).Perm (upto own.length)) : RowOk back ∧ ∀ y ∈ back, absI y ≤ back.length := by
  have hl := ho.len
  have hit : ∀ j, j < own.length → ∃ k, k < own.length ∧ (absI (own.getD k 0) - 1).toNat = j ∧ back.getD j 0 = ((k : Int) + 1) * sgn (own.getD k 0) := fun j hj => by
    have : ((j : Int) + 1) ∈ own.map absI := hp.mem_iff.mpr (upto_mem.mpr ⟨by omega, by omega⟩)
    obtain ⟨y, hy, e⟩ := List.mem_map.mp this
    obtain ⟨k, hk, ek⟩ := List.getElem_of_mem hy
    have eg : own.getD k 0 = y := by rw [List.getD_eq_getElem?_getD, List.getElem?_eq_getElem hk]; exact ek
    have ej : (absI (own.getD k 0) - 1).toNat = j := by rw [eg, e]; omega
    exact ⟨k, hk, ej, by rw [← ej]; exact hb.at_ k hk⟩
  have sg : ∀ y : Int, sgn y = 1 ∨ sgn y = -1 := fun y => by unfold sgn; split <;> simp
  have ab : ∀ (k : Nat) (y : Int), absI (((k : Int) + 1) * sgn y) = (k : Int) + 1 := fun k y => by
    rcases sg y with e | e <;> rw [e] <;> unfold absI <;> split <;> omega
  have gt : ∀ (j : Nat) (h : j < back.length), back[j] = back.getD j 0 := fun j h => by rw [List.getD_eq_getElem?_getD, List.getElem?_eq_getElem h]; rfl
  refine ⟨⟨fun y hy => ?_, List.pairwise_iff_getElem.mpr fun i j hi hj hij e => ?_⟩, fun y hy => ?_⟩
  · obtain ⟨j, hj, ej⟩ := List.getElem_of_mem hy
    obtain ⟨k, hk, _, e⟩ := hit j (by rw [← hb.len]; exact hj)
    rw [← ej, gt j hj, e]
    rcases sg (own.getD k 0) with q | q <;> rw [q] <;> omega
  · obtain ⟨k1, hk1, f1, e1⟩ := hit i (by rw [← hb.len]; exact hi)
    obtain ⟨k2, hk2, f2, e2⟩ := hit j (by rw [← hb.len]; exact hj)
    rw [gt i hi, gt j hj, e1, e2, ab, ab] at e
    have : k1 = k2 := by omega
    subst this
    omega
  · obtain ⟨j, hj, ej⟩ := List.getElem_of_mem hy
    obtain ⟨k, hk, _, e⟩ := hit j (by rw [← hb.len]; exact hj)
    rw [← ej, gt j hj, e, ab, hb.len]; omega
end Lb
set_option maxHeartbeats 2000000
namespace Lb
open PySem PySem.Spec L2 Vx
theorem tr9 {g : List D → FR} {d cs own hd : D} {s2 s3 s4 s6 s9 s10 s11 s12 : Sl} (e : g [cs, own] = .ok false hd []) : sSet 7 (mCall g [.pl, .pl] (aCons (mV 1) (aCons (mV 5) aNil))) (tEv d cs s2 s3 s4 (.cl own) s6 .un .un s9 s10 s11 s12 .un .un .un .un) = .ok .nx (tEv d cs s2 s3 s4 (.cl own) s6 (.cl hd) .un s9 s10 s11 s12 .un .un .un .un) := by
  simp -implicitDefEqProofs [e]
theorem tr10a {g k : List D → FR} {d cs th : D} {bk : List D} {m : Int} {s2 s3 s4 s5 s10 s11 s12 : Sl} (e : g [th] = .ok false (.int m) []) (e2 : k [th, .tuple bk] = .ok false cs []) (en : fNe cs cs = some (.val (.bool false))) :
    sIf (mAnd (mT (m2 fEq (mCall g [.pl] (aCons (mV 7) aNil)) (mV 9))) (mT (m2 fNe (mCall k [.pl, .pl] (aCons (mV 7) (aCons (mB (f1 fTuple) (aCons (mV 6) aNil)) aNil))) (mV 1)))) (sRet (mC (.bool false))) sNx (tEv d cs s2 s3 s4 s5 (.ow (.list bk)) (.cl th) .un (.cl (.int m)) s10 s11 s12 .un .un .un .un) = .ok .nx (tEv d cs s2 s3 s4 s5 (.ow (.list bk)) (.cl th) .un (.cl (.int m)) s10 s11 s12 .un .un .un .un) := by
  simp -implicitDefEqProofs [e, e2, en]
theorem tr10b {g k : List D → FR} {d cs th : D} {m m2' : Int} {s2 s3 s4 s5 s6 s10 s11 s12 : Sl} (e : g [th] = .ok false (.int m2') []) (ne : m2' ≠ m) :
    sIf (mAnd (mT (m2 fEq (mCall g [.pl] (aCons (mV 7) aNil)) (mV 9))) (mT (m2 fNe (mCall k [.pl, .pl] (aCons (mV 7) (aCons (mB (f1 fTuple) (aCons (mV 6) aNil)) aNil))) (mV 1)))) (sRet (mC (.bool false))) sNx (tEv d cs s2 s3 s4 s5 s6 (.cl th) .un (.cl (.int m)) s10 s11 s12 .un .un .un .un) = .ok .nx (tEv d cs s2 s3 s4 s5 s6 (.cl th) .un (.cl (.int m)) s10 s11 s12 .un .un .un .un) := by
  simp -implicitDefEqProofs [e, ne]
theorem tr11a {g : List D → FR} {d cs th : D} {m : Int} {s2 s3 s4 s5 s6 s10 s11 s12 : Sl} (e : g [th] = .ok false (.int m) []) :
    sIf (mT (m2 fNe (mCall g [.pl] (aCons (mV 7) aNil)) (mV 9))) (sRet (mC (.bool true))) sNx (tEv d cs s2 s3 s4 s5 s6 (.cl th) .un (.cl (.int m)) s10 s11 s12 .un .un .un .un) = .ok .nx (tEv d cs s2 s3 s4 s5 s6 (.cl th) .un (.cl (.int m)) s10 s11 s12 .un .un .un .un) := by
  simp -implicitDefEqProofs [e]
theorem tr11b {g : List D → FR} {d cs th : D} {m m2' : Int} {s2 s3 s4 s5 s6 s10 s11 s12 : Sl} (e : g [th] = .ok false (.int m2') []) (ne : m2' ≠ m) :
    sIf (mT (m2 fNe (mCall g [.pl] (aCons (mV 7) aNil)) (mV 9))) (sRet (mC (.bool true))) sNx (tEv d cs s2 s3 s4 s5 s6 (.cl th) .un (.cl (.int m)) s10 s11 s12 .un .un .un .un) = .ok (.rt (.val (.bool true))) (tEv d cs s2 s3 s4 s5 s6 (.cl th) .un (.cl (.int m)) s10 s11 s12 .un .un .un .un) := by
  simp -implicitDefEqProofs [e, ne]
theorem tr12 {g : List D → FR} {d cs : D} {ms : List D} {s2 s3 s4 s5 s6 s7 s9 s10 s11 s12 : Sl} (e : g [cs] = .ok true (.list ms) []) : sPar 13 14 (mCall g [.pl] (aCons (mV 1) aNil)) (mLst kNil) (tEv d cs s2 s3 s4 s5 s6 s7 .un s9 s10 s11 s12 .un .un .un .un) = .ok .nx (tEv d cs s2 s3 s4 s5 s6 s7 .un s9 s10 s11 s12 (.ow (.list ms)) (.ow (.list [])) .un .un) := by
  simp -implicitDefEqProofs [e]
theorem tr13i {g : List D → FR} {d cs : D} {ws : List D} {m : Int} {b : Bool} {s2 s3 s4 s5 s6 s7 s10 s11 s12 s13 s14 : Sl} (e : g [.int m] = .ok b (.list ws) []) : iSeqM (mCall g [.pl] (aCons (mV 9) aNil)) (tEv d cs s2 s3 s4 s5 s6 s7 .un (.cl (.int m)) s10 s11 s12 s13 s14 .un .un) = .ok ws (tEv d cs s2 s3 s4 s5 s6 s7 .un (.cl (.int m)) s10 s11 s12 s13 s14 .un .un) := by
  cases b <;> simp -implicitDefEqProofs [e]
theorem tr14 {g k : List D → FR} {d cs th : D} {fs : List D} {s2 s3 s4 s5 s6 s8 s9 s10 s11 s12 s13 : Sl} (e : g [th] = .ok true (.list fs) []) (e2 : k [.list fs, .list fs] = .ok false (.bool true) []) : sRet (mCall k [.pl, .pl] (aCons (mCall g [.pl] (aCons (mV 7) aNil)) (aCons (mV 14) aNil))) (tEv d cs s2 s3 s4 s5 s6 (.cl th) s8 s9 s10 s11 s12 s13 (.ow (.list fs)) .un .un) = .ok (.rt (.val (.bool true))) (tEv d cs s2 s3 s4 s5 s6 (.cl th) s8 s9 s10 s11 s12 s13 (.ow (.list fs)) .un .un) := by
  simp -implicitDefEqProofs [e, e2]
theorem bits_ix {w : List Int} {k : Int} (h1 : 0 ≤ k) (h2 : k < w.length) : fIx (encI w) (.int k) = some (.val (.int (w.getD k.toNat 0))) := rowIx h1 h2
theorem along_comp {d cs : D} {own w : List Int} {s2 s3 s4 s6 s7 s9 s10 s11 s12 s13 s14 : Sl} (h12 : wipable (some s12) = true) (ho : RowOk own) (hm : ∀ y ∈ own, absI y ≤ w.length) :
    mLc (iSeqM (mV 5)) (tName 12) tYesM m__law_is_turned_right_1 [12] (tEv d cs s2 s3 s4 (.cl (encI own)) s6 s7 (.cl (encI w)) s9 s10 s11 s12 s13 s14 .un .un) = .ok (.fr (.list ((alongW own w).map .int))) (tEv d cs s2 s3 s4 (.cl (encI own)) s6 s7 (.cl (encI w)) s9 s10 s11 s12 s13 s14 .un .un) := by
  have c1 : mLc (iSeqM (mV 5)) (tName 12) tYesM m__law_is_turned_right_1 [12] (tEv d cs s2 s3 s4 (.cl (encI own)) s6 s7 (.cl (encI w)) s9 s10 s11 s12 s13 s14 .un .un) = .ok (.fr (.list (own.map fun y => .int (if 0 < y then w.getD (absI y - 1).toNat 0 else 1 - w.getD (absI y - 1).toNat 0)))) (tEv d cs s2 s3 s4 (.cl (encI own)) s6 s7 (.cl (encI w)) s9 s10 s11 s12 s13 s14 .un .un) :=
    mLc_encM .int _ (by simp -implicitDefEqProofs) h12 (Nat.le_trans ho.len (by decide)) fun y hy => by
      have y0 := absI_one (ho.atoms y hy).2.2
      have yl := hm y hy
      have ix := bits_ix (w := w) (k := absI y - 1) (by omega) (by omega)
      generalize w.getD (absI y - 1).toNat 0 = b at *
      by_cases p : 0 < y <;> simp -implicitDefEqProofs [m__law_is_turned_right_1, p, ix]
  have hm2 : (own.map fun y => PyData.int (if 0 < y then w.getD (absI y - 1).toNat 0 else 1 - w.getD (absI y - 1).toNat 0)) = (alongW own w).map .int := by unfold alongW; rw [List.map_map]; rfl
  rw [hm2] at c1; exact c1
theorem tr13 {d cs : D} {own : List Int} {m : Nat} (hm12 : m ≤ 10) {ms : List (List Int)} {s2 s3 s4 s6 s7 s9 s10 s11 s12 : Sl} (h12 : wipable (some s12) = true) (ho : RowOk own) (hm : ∀ y ∈ own, absI y ≤ m) :
    ∃ s8, forI (tName 8) m__law_is_turned_right_2 ((worldsL m).map encI) (tEv d cs s2 s3 s4 (.cl (encI own)) s6 s7 .un s9 s10 s11 s12 (.ow (.list (ms.map encI))) (.ow (.list [])) .un .un) = .ok .nx (tEv d cs s2 s3 s4 (.cl (encI own)) s6 s7 s8 s9 s10 s11 s12 (.ow (.list (ms.map encI))) (.ow (.list (((worldsL m).filter fun w => decide (alongW own w ∈ ms)).map encI))) .un .un) := by
  let P : Nat → Ev → Prop := fun i ρ => ∃ s8, ρ = tEv d cs s2 s3 s4 (.cl (encI own)) s6 s7 s8 s9 s10 s11 s12 (.ow (.list (ms.map encI))) (.ow (.list ((((worldsL m).take i).filter fun w => decide (alongW own w ∈ ms)).map encI))) .un .un ∧ free (some s8) = true
  have wc : (worldsL m).length ≤ 1024 := by
    rw [worlds_count]; exact Nat.le_trans (Nat.pow_le_pow_right (by decide) hm12) (by decide)
  obtain ⟨ρ', e, s8, eρ, _⟩ := forI_inv (t := tName 8) (b := m__law_is_turned_right_2) (P := P) ((worldsL m).map encI) 0 _ ⟨.un, rfl, rfl⟩ fun i dd ρ hd hp => by
    obtain ⟨s8, eρ, h8⟩ := hp
    rw [Nat.zero_add] at eρ ⊢
    subst eρ
    rw [List.getElem?_map] at hd
    cases hci : (worldsL m)[i]? with
    | none => rw [hci] at hd; cases hd
    | some w =>
      rw [hci] at hd
      have hd : encI w = dd := Option.some.inj hd
      subst hd
      have lw := worlds_len m w (List.mem_of_getElem? hci)
      have ht : (worldsL m).take (i + 1) = (worldsL m).take i ++ [w] := by rw [List.take_add_one, hci]; rfl
      have fe : ((worldsL m).take (i + 1)).filter (fun w => decide (alongW own w ∈ ms)) = ((worldsL m).take i).filter (fun w => decide (alongW own w ∈ ms)) ++ (if alongW own w ∈ ms then [w] else []) := by
        rw [ht, List.filter_append]
        congr 1
        by_cases hb : alongW own w ∈ ms <;> simp [hb]
      have hl : (((worldsL m).take i).filter fun w => decide (alongW own w ∈ ms)).length < sizeLine := by
        refine Nat.lt_of_le_of_lt (List.length_filter_le _ _) ?_
        rw [List.length_take]
        exact Nat.lt_of_le_of_lt (show _ ≤ 1024 by omega) (by decide)
      generalize ((worldsL m).take i).filter (fun w => decide (alongW own w ∈ ms)) = acc at hl fe ⊢
      have c1 := along_comp (d := d) (cs := cs) (own := own) (w := w) (s2 := s2) (s3 := s3) (s4 := s4) (s6 := s6) (s7 := s7) (s9 := s9) (s10 := s10) (s11 := s11) (s12 := s12) (s13 := .ow (.list (ms.map encI))) (s14 := .ow (.list (acc.map encI))) h12 ho (by rw [lw]; exact hm)
      have f1' := fIn_C (alongW own w) ms
      refine ⟨tEv d cs s2 s3 s4 (.cl (encI own)) s6 s7 (.cl (encI w)) s9 s10 s11 s12 (.ow (.list (ms.map encI))) (.ow (.list (acc.map encI))) .un .un, tEv d cs s2 s3 s4 (.cl (encI own)) s6 s7 (.cl (encI w)) s9 s10 s11 s12 (.ow (.list (ms.map encI))) (.ow (.list ((acc ++ (if alongW own w ∈ ms then [w] else [])).map encI))) .un .un, by simp [h8], .inl ?_, _, by rw [fe], rfl⟩
      clear fe
      by_cases hb : alongW own w ∈ ms
      · rw [decide_eq_true hb] at f1'
        rw [if_pos hb]
        generalize alongW own w = al at *
        simp -implicitDefEqProofs [m__law_is_turned_right_2, c1, f1', hl]
      · rw [decide_eq_false hb] at f1'
        rw [if_neg hb]
        generalize alongW own w = al at *
        simp -implicitDefEqProofs [m__law_is_turned_right_2, c1, f1']
  rw [Nat.zero_add, List.length_map, List.take_length] at eρ
  subst eρ
  exact ⟨s8, e⟩
end Lb
set_option maxHeartbeats 2000000
namespace Lb
open PySem PySem.Spec L2 Vx
theorem turned_right {h : Hnd} {n : Nat} {cs : List (List Int)} (w : h.Ok (n + 60)) (hc : CsOk cs) (hg : ∀ c ∈ cs, Good c) : ∃ h', g__law_is_turned_right [h.d, encC cs] = .ok false (.bool true) [Hnd.d h'] ∧ h'.Ok n := by
  have h100 : ∀ c ∈ cs, c.length ≤ 100 := fun c hcm => Nat.le_trans (hc.ok c hcm).len (by decide)
  have e1 := law_many (Nat.le_trans hc.many (by decide)) h100
  have m4 := many_4 hg
  have m0 := many_nn cs
  obtain ⟨m, hm⟩ : ∃ m : Nat, manyI cs = (m : Int) := ⟨(manyI cs).toNat, by omega⟩
  rw [hm] at e1 m4
  have hal : ∀ c ∈ cs, ∀ x ∈ c, absI x ≤ (m : Int) := fun c hcm x hx => by have := Lb.many_le hcm hx; omega
  -- the row
  obtain ⟨es, h1, e2, p2, w1⟩ := mixed (h := h) (n := n + 40) (ds := (upto 12).map .int) (by rw [List.length_map, upto_len]; exact w.mono (by omega)) (by rw [List.length_map, upto_len]; omega)
  obtain ⟨t, rfl, pt⟩ := perm_ints p2
  have s1 := tr1 e1 e2
  have tl : t.length = 12 := by rw [pt.length_eq, upto_len]
  have ttl : (t.take m).length = m := by rw [List.length_take]; omega
  obtain ⟨row, h2, c2, ro, ra, w2⟩ := t_row (h := h1) (n := n + 30) (E := fun s => tEv s.d (encC cs) .un .un .un .un .un .un .un (.cl (.int (m : Nat))) (.ow (.list (t.map .int))) .un .un .un .un .un .un) (L := t.take m) (tr2i (d := h1.d) (cs := encC cs) (m := m) (t := t)) (fun _ => rfl) (by omega) (fun x hx => by have := upto_mem.mp (pt.mem_iff.mp (List.mem_of_mem_take hx)); omega) ((pt.symm.nodup (upto_nodup 12)).sublist (List.take_sublist _ _)) (w1.mono (by omega)) m__law_is_turned_right_7 fun s s' dd x e hmu => by
    have mu := fMul_int hmu
    simp -implicitDefEqProofs [m__law_is_turned_right_7, neg1, e, mu, two_size]
  have s2 := tr2 c2
  have rl : row.length = m := by rw [← ttl, ← ra, List.length_map]
  have e3 := turned_atoms hc ro (by rw [hm, rl])
  have s3 := tr3 (d := h2.d) (s9 := .cl (.int (m : Nat))) (s10 := .ow (.list (t.map .int))) e3
  have s4 := tr4 (d := h2.d) (s3 := .cl (encC (turnL row cs))) (s9 := .cl (.int (m : Nat))) (s10 := .ow (.list (t.map .int))) hc ro (by rw [rl]; exact hal)
  have hT := hc.turn ro (by rw [rl]; exact hal)
  have s5 := tr5 (d := h2.d) (cs := encC cs) (s2 := .cl (encI row)) (s9 := .cl (.int (m : Nat))) (s10 := .ow (.list (t.map .int))) (same_C hT)
  -- own
  obtain ⟨es2, h3, e4, p4, w3⟩ := mixed (h := h2) (n := n + 20) (ds := (upto m).map .int) (by rw [List.length_map, upto_len]; exact w2.mono (by omega)) (by rw [List.length_map, upto_len]; omega)
  obtain ⟨t2, rfl, pt2⟩ := perm_ints p4
  have t2l : t2.length = m := by rw [pt2.length_eq, upto_len]
  have i6 := tr6i (cs := encC cs) (s2 := .cl (encI row)) (s3 := .cl (encC (turnL row cs))) (s4 := .ow (.list ((turnL row cs).map encI))) (s10 := .ow (.list (t.map .int))) (by omega) e4
  obtain ⟨own, h4, c6, oo, oa, w4⟩ := t_row (h := h3) (n := n) (E := fun s => tEv s.d (encC cs) (.cl (encI row)) (.cl (encC (turnL row cs))) (.ow (.list ((turnL row cs).map encI))) .un .un .un .un (.cl (.int (m : Nat))) (.ow (.list (t.map .int))) .un .un .un .un .un .un) (L := t2) i6 (fun _ => rfl) (by omega) (fun x hx => by have := upto_mem.mp (pt2.mem_iff.mp hx); omega) (pt2.symm.nodup (upto_nodup m)) (w3.mono (by omega)) m__law_is_turned_right_4 fun s s' dd x e hmu => by
    have mu := fMul_int hmu
    generalize (turnL row cs).map encI = rr
    generalize encC (turnL row cs) = rr2
    simp -implicitDefEqProofs [m__law_is_turned_right_4, neg1, e, mu, two_size]
  have s6 := tr6 c6
  have ol : own.length = m := by rw [← t2l, ← oa, List.length_map]
  have op : (own.map absI).Perm (upto own.length) := by rw [oa, ol]; exact pt2
  have om : ∀ y ∈ own, absI y ≤ own.length := fun y hy => (upto_mem.mp (op.mem_iff.mp (List.mem_map.mpr ⟨y, hy, rfl⟩))).2
  have s7 := tr7 (d := h4.d) (cs := encC cs) (m := m) (by omega) (s2 := .cl (encI row)) (s3 := .cl (encC (turnL row cs))) (s4 := .ow (.list ((turnL row cs).map encI))) (s5 := .cl (encI own)) (s10 := .ow (.list (t.map .int)))
  obtain ⟨back, s11, s12, hb, q12, s8⟩ := tr8 (d := h4.d) (cs := encC cs) (s2 := .cl (encI row)) (s3 := .cl (encC (turnL row cs))) (s4 := .ow (.list ((turnL row cs).map encI))) (s9 := .cl (.int (m : Nat))) (s10 := .ow (.list (t.map .int))) oo om
  rw [ol] at s8
  have e9 := turned_atoms hc oo (by rw [hm, ol])
  have hO := hc.turn oo (by rw [ol]; exact hal)
  have s9 := tr9 (d := h4.d) (s2 := .cl (encI row)) (s3 := .cl (encC (turnL row cs))) (s4 := .ow (.list ((turnL row cs).map encI))) (s6 := .ow (.list (back.map .int))) (s9 := .cl (.int (m : Nat))) (s10 := .ow (.list (t.map .int))) (s11 := s11) (s12 := s12) e9
  have eM := law_many (cs := turnL own cs) (Nat.le_trans hO.many (by decide)) fun c hcm => Nat.le_trans (hO.ok c hcm).len (by decide)
  have hOa : ∀ c ∈ turnL own cs, ∀ x ∈ c, x ≠ 0 ∧ absI x ≤ (m : Int) := fun c hcm x hx => by
    refine ⟨((hO.ok c hcm).atoms x hx).2.2, ?_⟩
    obtain ⟨o, ho, rfl⟩ := List.mem_map.mp hcm
    obtain ⟨u1, p1⟩ := sAbs_up (row_clause oo (hc.ok o ho) (by rw [ol]; exact hal o ho)).1
    obtain ⟨y, hy, rfl⟩ := List.mem_map.mp (p1.mem_iff.mp hx)
    have h0 := ((hc.ok o ho).atoms y hy).2.2
    have hyl := hal o ho y hy
    rw [rowL_abs, ← ol]
    exact om _ (List.mem_of_getElem? (getD_at (by have := absI_one h0; omega)))
  have fin : ∃ ρ2, m__law_is_turned_right (tEv h.d (encC cs) .un .un .un .un .un .un .un .un .un .un .un .un .un .un .un) = .ok (.rt (.val (.bool true))) (.le h4.d :: ρ2) := by
    unfold m__law_is_turned_right
    rw [seq_nx s1, seq_nx s2, seq_nx s3, seq_nx s4, seq_nx s5, seq_nx s6, seq_nx s7, seq_nx s8, seq_nx s9]
    by_cases mm : manyI (turnL own cs) = (m : Int)
    · rw [mm] at eM
      obtain ⟨br, bl⟩ := back_row oo hb op
      have e10 := turned_atoms hO br (by rw [mm, hb.len, ol])
      have bt := turn_back hc oo hb br (by rw [ol]; exact hal) (fun c hcm x hx => by rw [hb.len, ol]; exact (hOa c hcm x hx).2)
      rw [bt] at e10
      have fn : fNe (encC cs) (encC cs) = some (.val (.bool false)) := fNe_refl (n := 2) (Shp.tup fun d hd => by
        obtain ⟨x, _, e⟩ := List.mem_map.mp hd
        subst e; exact shp_I x) (by decide)
      have s10 := tr10a (d := h4.d) (s2 := .cl (encI row)) (s3 := .cl (encC (turnL row cs))) (s4 := .ow (.list ((turnL row cs).map encI))) (s5 := .cl (encI own)) (s10 := .ow (.list (t.map .int))) (s11 := s11) (s12 := s12) eM e10 fn
      have s11' := tr11a (d := h4.d) (cs := encC cs) (s2 := .cl (encI row)) (s3 := .cl (encC (turnL row cs))) (s4 := .ow (.list ((turnL row cs).map encI))) (s5 := .cl (encI own)) (s6 := .ow (.list (back.map .int))) (s10 := .ow (.list (t.map .int))) (s11 := s11) (s12 := s12) eM
      have eL := law_models hc
      rw [hm, show (m : Int).toNat = m from rfl] at eL
      have s12' := tr12 (d := h4.d) (s2 := .cl (encI row)) (s3 := .cl (encC (turnL row cs))) (s4 := .ow (.list ((turnL row cs).map encI))) (s5 := .cl (encI own)) (s6 := .ow (.list (back.map .int))) (s7 := .cl (encC (turnL own cs))) (s9 := .cl (.int (m : Nat))) (s10 := .ow (.list (t.map .int))) (s11 := s11) (s12 := s12) eL
      obtain ⟨b, eW⟩ := worlds (m := m) (by omega)
      have i13 := tr13i (d := h4.d) (cs := encC cs) (s2 := .cl (encI row)) (s3 := .cl (encC (turnL row cs))) (s4 := .ow (.list ((turnL row cs).map encI))) (s5 := .cl (encI own)) (s6 := .ow (.list (back.map .int))) (s7 := .cl (encC (turnL own cs))) (s10 := .ow (.list (t.map .int))) (s11 := s11) (s12 := s12) (s13 := .ow (.list ((modelsL cs m).map encI))) (s14 := .ow (.list [])) eW
      obtain ⟨s8', l13⟩ := tr13 (d := h4.d) (cs := encC cs) (own := own) (m := m) (by omega) (ms := modelsL cs m) (s2 := .cl (encI row)) (s3 := .cl (encC (turnL row cs))) (s4 := .ow (.list ((turnL row cs).map encI))) (s6 := .ow (.list (back.map .int))) (s7 := .cl (encC (turnL own cs))) (s9 := .cl (.int (m : Nat))) (s10 := .ow (.list (t.map .int))) (s11 := s11) q12 oo (by rw [← ol]; exact om)
      have fe : (worldsL m).filter (fun w => decide (alongW own w ∈ modelsL cs m)) = modelsL (turnL own cs) m := by
        unfold modelsL
        refine List.filter_congr fun w hw => ?_
        have lw := worlds_len m w hw
        have wb := worlds_bits m w hw
        rw [breaks_along hc oo (by rw [ol]; exact hal) wb (by rw [lw, ← ol]; exact om)]
        have al : alongW own w ∈ worldsL m := worlds_all m _ (by unfold alongW; rw [List.length_map, ol]) fun b hb' => by
          obtain ⟨y, hy, rfl⟩ := List.mem_map.mp hb'
          have hk : (absI y - 1).toNat < w.length := by
            have := om y hy
            have := absI_one (oo.atoms y hy).2.2
            omega
          have := wb _ (List.mem_of_getElem? (getD_at hk))
          generalize (absI y - 1).toNat = kk at this ⊢
          split <;> omega
        cases hbb : breaksB cs (alongW own w) with
        | true => simp [List.mem_filter, hbb]
        | false => simp [List.mem_filter, hbb, al]
      rw [fe] at l13
      have eN := models_of hO (by rw [mm]; omega)
      rw [mm, show (m : Int).toNat = m from rfl] at eN
      have ms : g__law_same 12 [.list ((modelsL (turnL own cs) m).map encI), .list ((modelsL (turnL own cs) m).map encI)] = .ok false (.bool true) [] := by
        have wc : (modelsL (turnL own cs) m).length ≤ 1024 := by
          refine Nat.le_trans (List.length_filter_le _ _) ?_
          rw [worlds_count]; exact Nat.le_trans (Nat.pow_le_pow_right (by decide) (show m ≤ 10 by omega)) (by decide)
        refine same 11 _ (Tr.mono (n := 2) (.lst (fun d hd => ?_) ?_) (by decide)) (by decide)
        · obtain ⟨c, hcm, rfl⟩ := List.mem_map.mp hd
          refine tr_encI 0 ?_
          rw [worlds_len m c (List.mem_filter.mp hcm).1]
          exact Nat.le_trans (show m ≤ 10 by omega) (by decide)
        · rw [List.length_map]; exact Nat.le_trans wc (by decide)
      have s14 := tr14 (d := h4.d) (cs := encC cs) (s2 := .cl (encI row)) (s3 := .cl (encC (turnL row cs))) (s4 := .ow (.list ((turnL row cs).map encI))) (s5 := .cl (encI own)) (s6 := .ow (.list (back.map .int))) (s8 := s8') (s9 := .cl (.int (m : Nat))) (s10 := .ow (.list (t.map .int))) (s11 := s11) (s12 := s12) (s13 := .ow (.list ((modelsL cs m).map encI))) eN ms
      rw [seq_nx s10, seq_nx s11', seq_nx s12', seq_nx ((for_nx i13).trans l13)]
      exact ⟨_, s14⟩
    · have s10 := tr10b (k := g_turned_atoms) (d := h4.d) (cs := encC cs) (s2 := .cl (encI row)) (s3 := .cl (encC (turnL row cs))) (s4 := .ow (.list ((turnL row cs).map encI))) (s5 := .cl (encI own)) (s6 := .ow (.list (back.map .int))) (s10 := .ow (.list (t.map .int))) (s11 := s11) (s12 := s12) eM mm
      have s11' := tr11b (d := h4.d) (cs := encC cs) (s2 := .cl (encI row)) (s3 := .cl (encC (turnL row cs))) (s4 := .ow (.list ((turnL row cs).map encI))) (s5 := .cl (encI own)) (s6 := .ow (.list (back.map .int))) (s10 := .ow (.list (t.map .int))) (s11 := s11) (s12 := s12) eM mm
      have seq_rt : ∀ {a b : M Fl} {ρ ρ1 : Ev} {x : Op}, a ρ = .ok (.rt x) ρ1 → sSeq a b ρ = .ok (.rt x) ρ1 := fun {a b ρ ρ1 x} h => by unfold sSeq; rw [h]; rfl
      rw [seq_nx s10]
      exact ⟨_, seq_rt s11'⟩
  obtain ⟨ρ2, eb⟩ := fin
  refine ⟨h4, ?_, w4⟩
  generalize h.d = hd at eb
  unfold g__law_is_turned_right
  generalize m__law_is_turned_right = M at eb
  simp -implicitDefEqProofs [runD, eb]
end Lb
set_option maxHeartbeats 2000000
namespace Lb
open PySem PySem.Spec L2 Vx
def m_law_1 : M Op :=
    (mCall g__law_breaks [.pl, .pl] (aCons (mV 6) (aCons (mV 5) aNil)))
def m_law_2 : M Op :=
    (mCall g__law_breaks [.pl, .pl] (aCons (mV 6) (aCons (mV 5) aNil)))
def m_law_3 : M Fl :=
    (sIf (mT (m2 fNe (mB (f1 fAny) (aCons (mLc (iSeqM (mV 3)) (tName 6) tYesM m_law_1 [6]) aNil)) (mB (f1 fAny) (aCons (mLc (iSeqM (mV 4)) (tName 6) tYesM m_law_2 [6]) aNil)))) (sRet (mC (.bool false))) sNx)
def m_law_4 : M Fl :=
    (sSeq (sSet 3 (mCall g__law_clauses [.mu] (aCons (mV 1) aNil)))
    (sSeq (sSet 4 (mCall g_thinned [.pl] (aCons (mV 3) aNil)))
    (sSeq (sIf (mOr (mNot (mTr (mCall (g__law_same 12) [.pl, .pl] (aCons (mV 4) (aCons (mCall g__law_thin [.pl] (aCons (mV 3) aNil)) aNil))))) (mT (m2 fNe (mCall g_thinned [.pl] (aCons (mV 4) aNil)) (mV 4)))) (sRet (mC (.bool false))) sNx)
    (sSeq (sFor (iSeqM (mCall g__law_worlds [.pl] (aCons (mCall g__law_many [.pl] (aCons (mV 3) aNil)) aNil))) (tName 5) m_law_3)
    (sIf (mOr (mNot (mTr (mCall g__law_is_lot_right [.mu, .pl, .pl] (aCons (mV 1) (aCons (mV 3) (aCons (mCall g__law_clause [.mu, .pl, .pl] (aCons (mV 1) (aCons (mC (.int 4)) (aCons (mC (.int 3)) aNil)))) aNil)))))) (mNot (mTr (mCall g__law_is_turned_right [.mu, .pl] (aCons (mV 1) (aCons (mV 3) aNil)))))) (sRet (mC (.bool false))) sNx)))))
def m_law : M Fl :=
    (sSeq (sSet 1 (mCall g__law_hand [.pl] (aCons (mV 0) aNil)))
    (sSeq (sIf (mNot (mTr (mCall (g__law_same 12) [.pl, .pl] (aCons (mLst (kCons (mCall g_thinned [.pl] (aCons (mTup (kCons (mTup (kCons (mC (.int 1)) (kCons (mC (.int 2)) kNil))) (kCons (mTup (kCons (mC (.int 1)) kNil)) (kCons (mTup (kCons (mC (.int 1)) kNil)) kNil)))) aNil)) (kCons (mCall g_given_lot [.pl, .pl] (aCons (mTup (kCons (mTup (kCons (mC (.int 1)) (kCons (mC (.int 2)) kNil))) (kCons (mTup (kCons (m1 fNeg (mC (.int 1))) (kCons (mC (.int 3)) kNil))) kNil))) (aCons (mTup (kCons (mC (.int 1)) kNil)) aNil))) (kCons (mCall g_turned_atoms [.pl, .pl] (aCons (mTup (kCons (mTup (kCons (mC (.int 1)) (kCons (m1 fNeg (mC (.int 2))) kNil))) kNil)) (aCons (mTup (kCons (m1 fNeg (mC (.int 3))) (kCons (mC (.int 1)) kNil))) aNil))) kNil)))) (aCons (mLst (kCons (mTup (kCons (mTup (kCons (mC (.int 1)) kNil)) kNil)) (kCons (mTup (kCons (mTup (kCons (mC (.int 3)) kNil)) kNil)) (kCons (mTup (kCons (mTup (kCons (m1 fNeg (mC (.int 1))) (kCons (m1 fNeg (mC (.int 3))) kNil))) kNil)) kNil)))) aNil))))) (sRet (mC (.bool false))) sNx)
    (sSeq (sFor (iFn rng1 (aCons (mC (.int 5)) aNil)) (tName 2) m_law_4)
    (sRet (mC (.bool true))))))
def g_law : List D → FR := runD [.pl] 6 m_law
abbrev wEv (s0 : Sl) (d : D) (s2 s3 s4 s5 s6 : Sl) : Ev := [s0, .ow d, s2, s3, s4, s5, s6]
theorem la1 {g : List D → FR} {s0 s2 s4 s5 s6 : Sl} {s3 : Sl} {d d1 cs : D} (h3 : free (some s3) = true) (e : g [d] = .ok false cs [d1]) : sSet 3 (mCall g [.mu] (aCons (mV 1) aNil)) (wEv s0 d s2 s3 s4 s5 s6) = .ok .nx (wEv s0 d1 s2 (.cl cs) s4 s5 s6) := by
  simp -implicitDefEqProofs [e, h3]
theorem la2 {g : List D → FR} {s0 s2 s4 s5 s6 : Sl} {d cs th : D} (h4 : free (some s4) = true) (e : g [cs] = .ok false th []) : sSet 4 (mCall g [.pl] (aCons (mV 3) aNil)) (wEv s0 d s2 (.cl cs) s4 s5 s6) = .ok .nx (wEv s0 d s2 (.cl cs) (.cl th) s5 s6) := by
  simp -implicitDefEqProofs [e, h4]
theorem la3 {g k t : List D → FR} {s0 s2 s5 s6 : Sl} {d cs th : D} (e : t [cs] = .ok false th []) (e2 : k [th, th] = .ok false (.bool true) []) (e3 : g [th] = .ok false th []) (en : fNe th th = some (.val (.bool false))) : sIf (mOr (mNot (mTr (mCall k [.pl, .pl] (aCons (mV 4) (aCons (mCall t [.pl] (aCons (mV 3) aNil)) aNil))))) (mT (m2 fNe (mCall g [.pl] (aCons (mV 4) aNil)) (mV 4)))) (sRet (mC (.bool false))) sNx (wEv s0 d s2 (.cl cs) (.cl th) s5 s6) = .ok .nx (wEv s0 d s2 (.cl cs) (.cl th) s5 s6) := by
  simp -implicitDefEqProofs [e, e2, e3, en, truD_bool]
theorem la4i {g k : List D → FR} {s0 s2 s4 s5 s6 : Sl} {d cs : D} {m : Int} {b : Bool} {ws : List D} (e : g [cs] = .ok false (.int m) []) (e2 : k [.int m] = .ok b (.list ws) []) : iSeqM (mCall k [.pl] (aCons (mCall g [.pl] (aCons (mV 3) aNil)) aNil)) (wEv s0 d s2 (.cl cs) s4 s5 s6) = .ok ws (wEv s0 d s2 (.cl cs) s4 s5 s6) := by
  cases b <;> simp -implicitDefEqProofs [e, e2]
theorem la4 {s0 s2 : Sl} {d : D} {cs th : List (List Int)} {m : Nat} (hm : m ≤ 12) (hc : CsOk cs) (ht : CsOk th) (hcm : manyI cs ≤ m) (htm : manyI th ≤ m) (eq : ∀ w, breaksB th w = breaksB cs w) {s5 : Sl} (h5 : free (some s5) = true) : ∃ s5', free (some s5') = true ∧ forI (tName 5) m_law_3 ((worldsL m).map encI) (wEv s0 d s2 (.cl (encC cs)) (.cl (encC th)) s5 .un) = .ok .nx (wEv s0 d s2 (.cl (encC cs)) (.cl (encC th)) s5' .un) := by
  let P : Nat → Ev → Prop := fun i ρ => ∃ s5, ρ = wEv s0 d s2 (.cl (encC cs)) (.cl (encC th)) s5 .un ∧ free (some s5) = true
  obtain ⟨ρ', e, s5', eρ, q5⟩ := forI_inv (t := tName 5) (b := m_law_3) (P := P) ((worldsL m).map encI) 0 _ ⟨s5, rfl, h5⟩ fun i dd ρ hd hp => by
    obtain ⟨s5, eρ, h5⟩ := hp
    subst eρ
    rw [List.getElem?_map] at hd
    cases hci : (worldsL m)[i]? with
    | none => rw [hci] at hd; cases hd
    | some w =>
      rw [hci] at hd
      have hd : encI w = dd := Option.some.inj hd
      subst hd
      have hw := List.mem_of_getElem? hci
      have c1 : mLc (iSeqM (mV 3)) (tName 6) tYesM m_law_1 [6] (wEv s0 d s2 (.cl (encC cs)) (.cl (encC th)) (.cl (encI w)) .un) = .ok (.fr (.list (cs.map fun c => .bool (!holdsB c w)))) (wEv s0 d s2 (.cl (encC cs)) (.cl (encC th)) (.cl (encI w)) .un) :=
        mLc_encM encI _ (by simp -implicitDefEqProofs) rfl (Nat.le_trans hc.many (by decide)) fun c hcc => by
          have e := breaks (hc.fits hcm hw hcc) (hc.ok c hcc).size
          simp -implicitDefEqProofs [m_law_1, e]
      have c2 : mLc (iSeqM (mV 4)) (tName 6) tYesM m_law_2 [6] (wEv s0 d s2 (.cl (encC cs)) (.cl (encC th)) (.cl (encI w)) .un) = .ok (.fr (.list (th.map fun c => .bool (!holdsB c w)))) (wEv s0 d s2 (.cl (encC cs)) (.cl (encC th)) (.cl (encI w)) .un) :=
        mLc_encM encI _ (by simp -implicitDefEqProofs) rfl (Nat.le_trans ht.many (by decide)) fun c hcc => by
          have e := breaks (ht.fits htm hw hcc) (ht.ok c hcc).size
          simp -implicitDefEqProofs [m_law_2, e]
      have a1 := fAny_map (fun c => !holdsB c w) cs
      have a2 := fAny_map (fun c => !holdsB c w) th
      have eq := eq w
      unfold breaksB at eq
      rw [eq] at a2
      generalize (cs.any fun c => !holdsB c w) = b at a1 a2
      have en : fNe (.bool b) (.bool b) = some (.val (.bool false)) := fNe_refl (Shp.bool 0 b) (by decide)
      refine ⟨wEv s0 d s2 (.cl (encC cs)) (.cl (encC th)) (.cl (encI w)) .un, wEv s0 d s2 (.cl (encC cs)) (.cl (encC th)) (.cl (encI w)) .un, by simp [h5], .inl ?_, _, rfl, rfl⟩
      simp -implicitDefEqProofs [m_law_3, c1, c2, a1, a2, en]
  subst eρ
  exact ⟨s5', q5, e⟩
theorem la5 {g k t : List D → FR} {s0 s2 s4 s5 s6 : Sl} {d d1 d2 d3 cs c : D} (e : t [d, .int 4, .int 3] = .ok false c [d1]) (e2 : k [d1, cs, c] = .ok false (.bool true) [d2]) (e3 : g [d2, cs] = .ok false (.bool true) [d3]) : sIf (mOr (mNot (mTr (mCall k [.mu, .pl, .pl] (aCons (mV 1) (aCons (mV 3) (aCons (mCall t [.mu, .pl, .pl] (aCons (mV 1) (aCons (mC (.int 4)) (aCons (mC (.int 3)) aNil)))) aNil)))))) (mNot (mTr (mCall g [.mu, .pl] (aCons (mV 1) (aCons (mV 3) aNil)))))) (sRet (mC (.bool false))) sNx (wEv s0 d s2 (.cl cs) s4 s5 s6) = .ok .nx (wEv s0 d3 s2 (.cl cs) s4 s5 s6) := by
  simp -implicitDefEqProofs [e, e2, e3, truD_bool]
theorem sub_many {cs ds : List (List Int)} (s : ds.Sublist cs) : manyI ds ≤ manyI cs := many_up (many_nn cs) fun c hc x hx => many_le (s.subset hc) hx
theorem lap {h : Hnd} {n : Nat} (w : h.Ok (n + 400)) {s0 s2 s3 s4 s5 : Sl} (h3 : free (some s3) = true) (h4 : free (some s4) = true) (h5 : free (some s5) = true) : ∃ (h' : Hnd) (s3' s4' s5' : Sl), free (some s3') = true ∧ free (some s4') = true ∧ free (some s5') = true ∧ h'.Ok n ∧ m_law_4 (wEv s0 h.d s2 s3 s4 s5 .un) = .ok .nx (wEv s0 h'.d s2 s3' s4' s5' .un) := by
  obtain ⟨cs, h1, e1, cl, cg, w1⟩ := law_clauses (h := h) (n := n + 200) (w.mono (by omega))
  have hc : CsOk cs := ⟨by omega, fun c hcm => (cg c hcm).ok⟩
  have ht := hc.thin
  have t1 := thinned hc
  have t2 := law_thin hc
  have t3 := thinned ht
  rw [thin_thin] at t3
  have sm := same_C ht
  have en : fNe (encC (thinL cs)) (encC (thinL cs)) = some (.val (.bool false)) := fNe_refl (n := 2) (Shp.tup fun d hd => by
    obtain ⟨x, _, e⟩ := List.mem_map.mp hd
    subst e; exact shp_I x) (by decide)
  have em := law_many (Nat.le_trans hc.many (by decide)) fun c hcm => Nat.le_trans (hc.ok c hcm).len (by decide)
  have m4 := many_4 cg
  have m0 := many_nn cs
  obtain ⟨m, hm⟩ : ∃ m : Nat, manyI cs = (m : Int) := ⟨(manyI cs).toNat, by omega⟩
  rw [hm] at em
  obtain ⟨b, eW⟩ := worlds (m := m) (by omega)
  obtain ⟨s5', q5, l4⟩ := la4 (s0 := s0) (s2 := s2) (d := h1.d) (m := m) (by omega) hc ht (by omega) (by have := sub_many (thin_sub cs); omega) (fun w => thin_breaks (fun c hcm => (hc.ok c hcm).up) w) h5
  obtain ⟨c, h2, e2, oc, lc, w2⟩ := law_clause (h := h1) (n := n + 150) (k := 4) (m := 3) (w1.mono (by omega)) (by decide) (by decide)
  rw [show ((4 : Nat) : Int) = 4 from rfl, show ((3 : Nat) : Int) = 3 from rfl] at e2
  obtain ⟨h3', e3, w3⟩ := lot_right (h := h2) (n := n + 100) (cs := cs) (lot := c) (w2.mono (by omega)) hc cg ⟨oc, fun x hx => by have := lc x hx; omega⟩
  obtain ⟨h4', e4, w4⟩ := turned_right (h := h3') (n := n) (cs := cs) (w3.mono (by omega)) hc cg
  refine ⟨h4', .cl (encC cs), .cl (encC (thinL cs)), s5', rfl, rfl, q5, w4, ?_⟩
  unfold m_law_4
  rw [seq_nx (la1 h3 e1), seq_nx (la2 h4 t1), seq_nx (la3 t2 sm t3 en), seq_nx ((for_nx (la4i em eW)).trans l4)]
  exact la5 e2 e3 e4
theorem la0 {g k j : List D → FR} {t : List D → FR} {s0 : Sl} {d : D} (e1 : g [encC [[1, 2], [1], [1]]] = .ok false (encC [[1]]) []) (e2 : j [encC [[1, 2], [-1, 3]], encI [1]] = .ok false (encC [[3]]) []) (e3 : t [encC [[1, -2]], encI [-3, 1]] = .ok false (encC [[-1, -3]]) []) (e4 : k [.list [encC [[1]], encC [[3]], encC [[-1, -3]]], .list [encC [[1]], encC [[3]], encC [[-1, -3]]]] = .ok false (.bool true) []) :
    sIf (mNot (mTr (mCall k [.pl, .pl] (aCons (mLst (kCons (mCall g [.pl] (aCons (mTup (kCons (mTup (kCons (mC (.int 1)) (kCons (mC (.int 2)) kNil))) (kCons (mTup (kCons (mC (.int 1)) kNil)) (kCons (mTup (kCons (mC (.int 1)) kNil)) kNil)))) aNil)) (kCons (mCall j [.pl, .pl] (aCons (mTup (kCons (mTup (kCons (mC (.int 1)) (kCons (mC (.int 2)) kNil))) (kCons (mTup (kCons (m1 fNeg (mC (.int 1))) (kCons (mC (.int 3)) kNil))) kNil))) (aCons (mTup (kCons (mC (.int 1)) kNil)) aNil))) (kCons (mCall t [.pl, .pl] (aCons (mTup (kCons (mTup (kCons (mC (.int 1)) (kCons (m1 fNeg (mC (.int 2))) kNil))) kNil)) (aCons (mTup (kCons (m1 fNeg (mC (.int 3))) (kCons (mC (.int 1)) kNil))) aNil))) kNil)))) (aCons (mLst (kCons (mTup (kCons (mTup (kCons (mC (.int 1)) kNil)) kNil)) (kCons (mTup (kCons (mTup (kCons (mC (.int 3)) kNil)) kNil)) (kCons (mTup (kCons (mTup (kCons (m1 fNeg (mC (.int 1))) (kCons (m1 fNeg (mC (.int 3))) kNil))) kNil)) kNil)))) aNil))))) (sRet (mC (.bool false))) sNx (wEv s0 d .un .un .un .un .un) = .ok .nx (wEv s0 d .un .un .un .un .un) := by
  have n1 : fNeg (.int 1) = some (.val (.int (-1))) := rfl
  have n2 : fNeg (.int 2) = some (.val (.int (-2))) := rfl
  have n3 : fNeg (.int 3) = some (.val (.int (-3))) := rfl
  have z3 : 3 ≤ sizeLine := by decide
  simp only [encC, encI, List.map_cons, List.map_nil] at e1 e2 e3 e4
  simp -implicitDefEqProofs [e1, e2, e3, e4, n1, n2, n3, one_size, two_size, z3, truD_bool]
theorem cl_of {c : List Int} (h : c.all (fun x => decide (-12 ≤ x) && decide (x ≤ 12) && decide (x ≠ 0)) = true) (u : c.Pairwise fun a b => absI a < absI b) : ClOk c := ⟨fun x hx => by
  have := List.all_eq_true.mp h x hx
  simp only [Bool.and_eq_true, decide_eq_true_eq] at this
  omega, u⟩
theorem law {ns : List Int} (hz : ns.length ≤ 63) (hb : ∀ z ∈ ns, z.natAbs < 2 ^ 1048576) : g_law [.list (ns.map .int)] = .ok false (.bool true) [] := by
  have eh := law_hand hz
  have k1 : CsOk [[1, 2], [1], [1]] := ⟨by decide, fun c hc => by
    simp only [List.mem_cons, List.not_mem_nil, or_false] at hc
    rcases hc with e | e | e <;> subst e <;> exact cl_of (by decide) (by decide)⟩
  have k2 : CsOk [[1, 2], [-1, 3]] := ⟨by decide, fun c hc => by
    simp only [List.mem_cons, List.not_mem_nil, or_false] at hc
    rcases hc with e | e <;> subst e <;> exact cl_of (by decide) (by decide)⟩
  have k3 : CsOk [[1, -2]] := ⟨by decide, fun c hc => by
    simp only [List.mem_cons, List.not_mem_nil, or_false] at hc
    subst hc; exact cl_of (by decide) (by decide)⟩
  have e1 := thinned k1
  have x1 : thinL [[1, 2], [1], [1]] = [[1]] := by decide
  rw [x1] at e1
  have e2 := given_lot k2 (lot := [1]) (cl_of (by decide) (by decide))
  have x2 : leftL [[1, 2], [-1, 3]] [1] = [[3]] := by decide
  rw [x2] at e2
  have e3 := turned_atoms k3 (row := [-3, 1]) ⟨by decide, by decide⟩ (by decide)
  have x3 : turnL [-3, 1] [[1, -2]] = [[-1, -3]] := by
    show [sAbs [-3, -1]] = _
    have d : [(-3 : Int), -1].Pairwise fun a b => absI a ≠ absI b := by decide
    obtain ⟨u, p⟩ := sAbs_up d
    have : sAbs [-3, -1] = [-1, -3] := up_ext u (by decide) (fun x hx => by
      have := p.mem_iff.mp hx
      simp only [List.mem_cons, List.not_mem_nil, or_false] at this ⊢
      omega) fun x hx => p.mem_iff.mpr (by
      simp only [List.mem_cons, List.not_mem_nil, or_false] at hx ⊢
      omega)
    rw [this]
  rw [x3] at e3
  have e4 : g__law_same 12 [.list [encC [[1]], encC [[3]], encC [[-1, -3]]], .list [encC [[1]], encC [[3]], encC [[-1, -3]]]] = .ok false (.bool true) [] := by
    refine same 11 _ (Tr.mono (n := 3) (.lst (fun d hd => ?_) (by decide)) (by decide)) (by decide)
    simp only [List.mem_cons, List.not_mem_nil, or_false] at hd
    rcases hd with e | e | e <;> subst e <;> exact tr_encC 0 (fun c hc => by
      simp only [List.mem_cons, List.not_mem_nil, or_false] at hc
      subst hc; decide) (by decide)
  have s0 := la0 (s0 := .bo (.list (ns.map .int))) (d := (hand0 ns).d) e1 e2 e3 e4
  have ok0 := hand_ok hz hb (n := 2000) (by decide)
  let P : Nat → Ev → Prop := fun i ρ => ∃ (h : Hnd) (s2 s3 s4 s5 : Sl), ρ = wEv (.bo (.list (ns.map .int))) h.d s2 s3 s4 s5 .un ∧ h.Ok (2000 - 400 * i) ∧ free (some s2) = true ∧ free (some s3) = true ∧ free (some s4) = true ∧ free (some s5) = true
  obtain ⟨ρ', e, h', s2, s3, s4, s5, eρ, _⟩ := forI_inv (t := tName 2) (b := m_law_4) (P := P) (rngD 0 5) 0 (wEv (.bo (.list (ns.map .int))) (hand0 ns).d .un .un .un .un .un) ⟨hand0 ns, .un, .un, .un, .un, rfl, ok0, rfl, rfl, rfl, rfl⟩ fun i dd ρ hd hp => by
    obtain ⟨h, s2, s3, s4, s5, eρ, w, f2, f3, f4, f5⟩ := hp
    rw [Nat.zero_add] at w ⊢
    subst eρ
    rw [rngD_get] at hd
    by_cases c : i < 5
    · rw [if_pos c] at hd
      have hd : (PyData.int (i : Nat)) = dd := Option.some.inj hd
      subst hd
      obtain ⟨h', s3', s4', s5', q3, q4, q5, w', b⟩ := lap (h := h) (n := 2000 - 400 * (i + 1)) (w.mono (by omega)) (s0 := .bo (.list (ns.map .int))) (s2 := .cl (.int (i : Nat))) f3 f4 f5
      exact ⟨wEv (.bo (.list (ns.map .int))) h.d (.cl (.int (i : Nat))) s3 s4 s5 .un, _, by simp [f2], .inl b, h', _, s3', s4', s5', rfl, w', rfl, q3, q4, q5⟩
    · rw [if_neg c] at hd; cases hd
  subst eρ
  have r5 := rng1_of (j := 5) (by decide) (by decide)
  rw [show (5 : Int).toNat = 5 from rfl] at r5
  have body : m_law [.bo (.list (ns.map .int)), .un, .un, .un, .un, .un, .un] = .ok (.rt (.val (.bool true))) (wEv (.bo (.list (ns.map .int))) h'.d s2 s3 s4 s5 .un) := by
    have sh : sSet 1 (mCall g__law_hand [.pl] (aCons (mV 0) aNil)) [.bo (.list (ns.map .int)), .un, .un, .un, .un, .un, .un] = .ok .nx (wEv (.bo (.list (ns.map .int))) (hand0 ns).d .un .un .un .un .un) := by
      generalize (hand0 ns).d = hd at eh
      generalize ns.map PyData.int = nn at *
      generalize g__law_hand = g at *
      simp -implicitDefEqProofs [eh]
    have ri : ∀ d, iFn rng1 (aCons (mC (.int 5)) aNil) (wEv (.bo (.list (ns.map .int))) d .un .un .un .un .un) = .ok (rngD 0 5) (wEv (.bo (.list (ns.map .int))) d .un .un .un .un .un) := fun d => by
      generalize rngD 0 5 = r at *
      simp -implicitDefEqProofs [r5]
    unfold m_law
    rw [seq_nx sh, seq_nx s0, seq_nx ((for_nx (ri _)).trans e)]
    rfl
  unfold g_law
  generalize m_law = M at body
  simp -implicitDefEqProofs [runD, body]
end Lb
set_option maxHeartbeats 0
namespace Wk
section
open PySem PySem.Spec PyProof.Rows L2
def d_is_integer : He.DefD := ⟨("is_integer", none), "is_integer", "is_integer", defArgs s_is_integer, defBody s_is_integer, defScope s_is_integer, [], []⟩
def d_is_within : He.DefD := ⟨("is_within", none), "is_within", "is_within", defArgs s_is_within, defBody s_is_within, defScope s_is_within, [], []⟩
def d_two_to : He.DefD := ⟨("two_to", none), "two_to", "two_to", defArgs s_two_to, defBody s_two_to, defScope s_two_to, [], []⟩
def d_bits_of : He.DefD := ⟨("bits_of", none), "bits_of", "bits_of", defArgs s_bits_of, defBody s_bits_of, defScope s_bits_of, [], []⟩
def d_is_clause : He.DefD := ⟨("is_clause", none), "is_clause", "is_clause", defArgs s_is_clause, defBody s_is_clause, defScope s_is_clause, [], []⟩
def d_is_clauses : He.DefD := ⟨("is_clauses", none), "is_clauses", "is_clauses", defArgs s_is_clauses, defBody s_is_clauses, defScope s_is_clauses, [], []⟩
def d_check_clauses : He.DefD := ⟨("check_clauses", none), "check_clauses", "check_clauses", defArgs s_check_clauses, defBody s_check_clauses, defScope s_check_clauses, [], []⟩
def d_many_in : He.DefD := ⟨("many_in", none), "many_in", "many_in", defArgs s_many_in, defBody s_many_in, defScope s_many_in, [], []⟩
def d_holds_in : He.DefD := ⟨("holds_in", none), "holds_in", "holds_in", defArgs s_holds_in, defBody s_holds_in, defScope s_holds_in, [], []⟩
def d_first_broken : He.DefD := ⟨("first_broken", none), "first_broken", "first_broken", defArgs s_first_broken, defBody s_first_broken, defScope s_first_broken, [], []⟩
def d_models_of : He.DefD := ⟨("models_of", none), "models_of", "models_of", defArgs s_models_of, defBody s_models_of, defScope s_models_of, [], []⟩
def d_joined : He.DefD := ⟨("joined", none), "joined", "joined", defArgs s_joined, defBody s_joined, defScope s_joined, [], []⟩
def d_is_part : He.DefD := ⟨("is_part", none), "is_part", "is_part", defArgs s_is_part, defBody s_is_part, defScope s_is_part, [], []⟩
def d_thinned : He.DefD := ⟨("thinned", none), "thinned", "thinned", defArgs s_thinned, defBody s_thinned, defScope s_thinned, [], []⟩
def d_left_by : He.DefD := ⟨("left_by", none), "left_by", "left_by", defArgs s_left_by, defBody s_left_by, defScope s_left_by, [], []⟩
def d_is_lot : He.DefD := ⟨("is_lot", none), "is_lot", "is_lot", defArgs s_is_lot, defBody s_is_lot, defScope s_is_lot, [], []⟩
def d_check_lot : He.DefD := ⟨("check_lot", none), "check_lot", "check_lot", defArgs s_check_lot, defBody s_check_lot, defScope s_check_lot, [], []⟩
def d_given_lot : He.DefD := ⟨("given_lot", none), "given_lot", "given_lot", defArgs s_given_lot, defBody s_given_lot, defScope s_given_lot, [], []⟩
def d_turned_atoms : He.DefD := ⟨("turned_atoms", none), "turned_atoms", "turned_atoms", defArgs s_turned_atoms, defBody s_turned_atoms, defScope s_turned_atoms, [], []⟩
def d_is_names : He.DefD := ⟨("is_names", none), "is_names", "is_names", defArgs s_is_names, defBody s_is_names, defScope s_is_names, [], []⟩
def d__law_hand : He.DefD := ⟨("_law_hand", none), "_law_hand", "_law_hand", defArgs s__law_hand, defBody s__law_hand, defScope s__law_hand, [], []⟩
def d__law_draw : He.DefD := ⟨("_law_draw", none), "_law_draw", "_law_draw", defArgs s__law_draw, defBody s__law_draw, defScope s__law_draw, [], []⟩
def d__law_any : He.DefD := ⟨("_law_any", none), "_law_any", "_law_any", defArgs s__law_any, defBody s__law_any, defScope s__law_any, [], []⟩
def d__law_mixed : He.DefD := ⟨("_law_mixed", none), "_law_mixed", "_law_mixed", defArgs s__law_mixed, defBody s__law_mixed, defScope s__law_mixed, [], []⟩
def d__law_same : He.DefD := ⟨("_law_same", none), "_law_same", "_law_same", defArgs s__law_same, defBody s__law_same, defScope s__law_same, [], []⟩
def d__law_clause : He.DefD := ⟨("_law_clause", none), "_law_clause", "_law_clause", defArgs s__law_clause, defBody s__law_clause, defScope s__law_clause, [], []⟩
def d__law_clauses : He.DefD := ⟨("_law_clauses", none), "_law_clauses", "_law_clauses", defArgs s__law_clauses, defBody s__law_clauses, defScope s__law_clauses, [], []⟩
def d__law_many : He.DefD := ⟨("_law_many", none), "_law_many", "_law_many", defArgs s__law_many, defBody s__law_many, defScope s__law_many, [], []⟩
def d__law_atoms_of : He.DefD := ⟨("_law_atoms_of", none), "_law_atoms_of", "_law_atoms_of", defArgs s__law_atoms_of, defBody s__law_atoms_of, defScope s__law_atoms_of, [], []⟩
def d__law_worlds : He.DefD := ⟨("_law_worlds", none), "_law_worlds", "_law_worlds", defArgs s__law_worlds, defBody s__law_worlds, defScope s__law_worlds, [], []⟩
def d__law_breaks : He.DefD := ⟨("_law_breaks", none), "_law_breaks", "_law_breaks", defArgs s__law_breaks, defBody s__law_breaks, defScope s__law_breaks, [], []⟩
def d__law_models : He.DefD := ⟨("_law_models", none), "_law_models", "_law_models", defArgs s__law_models, defBody s__law_models, defScope s__law_models, [], []⟩
def d__law_joined : He.DefD := ⟨("_law_joined", none), "_law_joined", "_law_joined", defArgs s__law_joined, defBody s__law_joined, defScope s__law_joined, [], []⟩
def d__law_has_all : He.DefD := ⟨("_law_has_all", none), "_law_has_all", "_law_has_all", defArgs s__law_has_all, defBody s__law_has_all, defScope s__law_has_all, [], []⟩
def d__law_thin : He.DefD := ⟨("_law_thin", none), "_law_thin", "_law_thin", defArgs s__law_thin, defBody s__law_thin, defScope s__law_thin, [], []⟩
def d__law_left : He.DefD := ⟨("_law_left", none), "_law_left", "_law_left", defArgs s__law_left, defBody s__law_left, defScope s__law_left, [], []⟩
def d__law_is_lot_right : He.DefD := ⟨("_law_is_lot_right", none), "_law_is_lot_right", "_law_is_lot_right", defArgs s__law_is_lot_right, defBody s__law_is_lot_right, defScope s__law_is_lot_right, [], []⟩
def d__law_is_turned_right : He.DefD := ⟨("_law_is_turned_right", none), "_law_is_turned_right", "_law_is_turned_right", defArgs s__law_is_turned_right, defBody s__law_is_turned_right, defScope s__law_is_turned_right, [], []⟩
def d_law : He.DefD := ⟨("law", none), "law", "law", defArgs s_law, defBody s_law, defScope s_law, [], []⟩
def fnL : List He.DefD := ([d_is_integer, d_is_within, d_two_to, d_bits_of, d_is_clause, d_is_clauses, d_check_clauses, d_many_in, d_holds_in, d_first_broken, d_models_of, d_joined, d_is_part, d_thinned, d_left_by, d_is_lot, d_check_lot, d_given_lot, d_turned_atoms, d_is_names, d__law_hand, d__law_draw, d__law_any, d__law_mixed, d__law_same, d__law_clause, d__law_clauses, d__law_many, d__law_atoms_of, d__law_worlds] : List He.DefD) ++ ([d__law_breaks, d__law_models, d__law_joined, d__law_has_all, d__law_thin, d__law_left, d__law_is_lot_right, d__law_is_turned_right, d_law] : List He.DefD)
def faL : List He.Fa := ([.glo "is_integer", .glo "is_within", .glo "two_to", .glo "bits_of", .glo "FollowError", .glo "NoWorld", .glo "NoClauses", .glo "NoAtom", .glo "TooMany", .int "MOST_ATOMS" 12, .int "MOST_CLAUSES" 80, .glo "is_clause", .glo "is_clauses", .glo "check_clauses", .glo "many_in", .glo "holds_in", .glo "first_broken", .glo "models_of", .glo "joined", .glo "is_part", .glo "thinned", .glo "left_by", .glo "is_lot", .glo "check_lot", .glo "given_lot", .glo "turned_atoms", .glo "is_names", .glo "_law_hand", .glo "_law_draw", .glo "_law_any"] : List He.Fa) ++ ([.glo "_law_mixed", .glo "_law_same", .glo "_law_clause", .glo "_law_clauses", .glo "_law_many", .glo "_law_atoms_of", .glo "_law_worlds", .glo "_law_breaks", .glo "_law_models", .glo "_law_joined", .glo "_law_has_all", .glo "_law_thin", .glo "_law_left", .glo "_law_is_lot_right", .glo "_law_is_turned_right", .glo "law", .free "ValueError", .free "abs", .free "all", .free "any", .free "bool", .free "enumerate", .free "int", .free "isinstance", .free "len", .free "list", .free "max", .free "range", .free "sorted", .free "super"] : List He.Fa) ++ ([.free "tuple", .free "zip"] : List He.Fa)
def looseL : List Str := (["is_integer", "is_within", "two_to", "bits_of", "FollowError", "NoWorld", "NoClauses", "NoAtom", "TooMany", "MOST_ATOMS", "MOST_CLAUSES", "is_clause", "is_clauses", "check_clauses", "many_in", "holds_in", "first_broken", "models_of", "joined", "is_part", "thinned", "left_by", "is_lot", "check_lot", "given_lot", "turned_atoms", "is_names", "_law_hand", "_law_draw", "_law_any"] : List Str) ++ (["_law_mixed", "_law_same", "_law_clause", "_law_clauses", "_law_many", "_law_atoms_of", "_law_worlds", "_law_breaks", "_law_models", "_law_joined", "_law_has_all", "_law_thin", "_law_left", "_law_is_lot_right", "_law_is_turned_right"] : List Str)
abbrev R : PySem.W.OpenRow := PySem.W.OpenLaw.row PySem.Challenge.rw_followways_k09_whole_thinned_left_turned
def lamL : List (He.Defn × Str) := [(("joined", none), "joined.<locals>.<lambda>")]
def tfL : List He.Defn := lamL.map (·.1)
abbrev hk : PySem.W.Hook := He.hookX 3 faL fnL [] tfL fun _ => true
def ob (s : PySem.W.SharedT) : He.AlX := He.obsX 3 faL fnL [] tfL (fun _ => true) (HandSHeadRun.getT s)
theorem ob_eq (s : PySem.W.SharedT) : ob s = hk.obs s.abs := He.obsX_eq (HandSHeadRun.getT_eq s)
theorem run (w : World) : HandSHeadRun.RunEq R (PySem.W.view R.prog [49]) hk ob 3000 looseL w := by
  intro os
  kernel_rfl
end
end Wk
set_option maxHeartbeats 0
namespace Wk
open PySem PySem.Spec L2 Vx
def fnN : Nat → Str
  | 0 => "is_integer"
  | 1 => "is_within"
  | 2 => "two_to"
  | 3 => "bits_of"
  | 4 => "is_clause"
  | 5 => "is_clauses"
  | 6 => "check_clauses"
  | 7 => "many_in"
  | 8 => "holds_in"
  | 9 => "first_broken"
  | 10 => "models_of"
  | 11 => "joined"
  | 12 => "is_part"
  | 13 => "thinned"
  | 14 => "left_by"
  | 15 => "is_lot"
  | 16 => "check_lot"
  | 17 => "given_lot"
  | 18 => "turned_atoms"
  | 19 => "is_names"
  | 20 => "_law_hand"
  | 21 => "_law_draw"
  | 22 => "_law_any"
  | 23 => "_law_mixed"
  | 24 => "_law_same"
  | 25 => "_law_clause"
  | 26 => "_law_clauses"
  | 27 => "_law_many"
  | 28 => "_law_atoms_of"
  | 29 => "_law_worlds"
  | 30 => "_law_breaks"
  | 31 => "_law_models"
  | 32 => "_law_joined"
  | 33 => "_law_has_all"
  | 34 => "_law_thin"
  | 35 => "_law_left"
  | 36 => "_law_is_lot_right"
  | 37 => "_law_is_turned_right"
  | 38 => "law"
  | _ => ""
abbrev fa (K : PySem.W.Frag) (i : Nat) : Addr := He.ga K (fnN i)
abbrev csL (K : PySem.W.Frag) : List (Addr × Addr) := tfL.map (He.cT K)
abbrev tbL (K : PySem.W.Frag) : List (Addr × Str) := lamL.map fun d => ((He.cT K d.1).2, d.2)
theorem facts {w : World} {h : Heap} {K : PySem.W.Frag} {mg : Str → Option Value} (X : K.In h) (G : h.Ns mainGlobals mg) (c : He.SaysX faL fnL [] tfL (fun _ => true) w h K) : ∃ fdd : Nat → FuncData, FunD K "law" "law" (defArgs s_law) (defBody s_law) (defScope s_law) [] [] (fa K 38) (fdd 38) ∧ ∀ base : Heap, (∀ p ∈ csL K, LamX.TabB base mg p.1 p.2) → Hs K mg base (fa K) fdd (tbL K) := by
  obtain ⟨fd0, F0⟩ := c.t.d.def_ 0 (d := d_is_integer) rfl
  obtain ⟨fd1, F1⟩ := c.t.d.def_ 1 (d := d_is_within) rfl
  obtain ⟨fd2, F2⟩ := c.t.d.def_ 2 (d := d_two_to) rfl
  obtain ⟨fd3, F3⟩ := c.t.d.def_ 3 (d := d_bits_of) rfl
  obtain ⟨fd4, F4⟩ := c.t.d.def_ 4 (d := d_is_clause) rfl
  obtain ⟨fd5, F5⟩ := c.t.d.def_ 5 (d := d_is_clauses) rfl
  obtain ⟨fd6, F6⟩ := c.t.d.def_ 6 (d := d_check_clauses) rfl
  obtain ⟨fd7, F7⟩ := c.t.d.def_ 7 (d := d_many_in) rfl
  obtain ⟨fd8, F8⟩ := c.t.d.def_ 8 (d := d_holds_in) rfl
  obtain ⟨fd9, F9⟩ := c.t.d.def_ 9 (d := d_first_broken) rfl
  obtain ⟨fd10, F10⟩ := c.t.d.def_ 10 (d := d_models_of) rfl
  obtain ⟨fd11, F11⟩ := c.t.d.def_ 11 (d := d_joined) rfl
  obtain ⟨fd12, F12⟩ := c.t.d.def_ 12 (d := d_is_part) rfl
  obtain ⟨fd13, F13⟩ := c.t.d.def_ 13 (d := d_thinned) rfl
  obtain ⟨fd14, F14⟩ := c.t.d.def_ 14 (d := d_left_by) rfl
  obtain ⟨fd15, F15⟩ := c.t.d.def_ 15 (d := d_is_lot) rfl
  obtain ⟨fd16, F16⟩ := c.t.d.def_ 16 (d := d_check_lot) rfl
  obtain ⟨fd17, F17⟩ := c.t.d.def_ 17 (d := d_given_lot) rfl
  obtain ⟨fd18, F18⟩ := c.t.d.def_ 18 (d := d_turned_atoms) rfl
  obtain ⟨fd19, F19⟩ := c.t.d.def_ 19 (d := d_is_names) rfl
  obtain ⟨fd20, F20⟩ := c.t.d.def_ 20 (d := d__law_hand) rfl
  obtain ⟨fd21, F21⟩ := c.t.d.def_ 21 (d := d__law_draw) rfl
  obtain ⟨fd22, F22⟩ := c.t.d.def_ 22 (d := d__law_any) rfl
  obtain ⟨fd23, F23⟩ := c.t.d.def_ 23 (d := d__law_mixed) rfl
  obtain ⟨fd24, F24⟩ := c.t.d.def_ 24 (d := d__law_same) rfl
  obtain ⟨fd25, F25⟩ := c.t.d.def_ 25 (d := d__law_clause) rfl
  obtain ⟨fd26, F26⟩ := c.t.d.def_ 26 (d := d__law_clauses) rfl
  obtain ⟨fd27, F27⟩ := c.t.d.def_ 27 (d := d__law_many) rfl
  obtain ⟨fd28, F28⟩ := c.t.d.def_ 28 (d := d__law_atoms_of) rfl
  obtain ⟨fd29, F29⟩ := c.t.d.def_ 29 (d := d__law_worlds) rfl
  obtain ⟨fd30, F30⟩ := c.t.d.def_ 30 (d := d__law_breaks) rfl
  obtain ⟨fd31, F31⟩ := c.t.d.def_ 31 (d := d__law_models) rfl
  obtain ⟨fd32, F32⟩ := c.t.d.def_ 32 (d := d__law_joined) rfl
  obtain ⟨fd33, F33⟩ := c.t.d.def_ 33 (d := d__law_has_all) rfl
  obtain ⟨fd34, F34⟩ := c.t.d.def_ 34 (d := d__law_thin) rfl
  obtain ⟨fd35, F35⟩ := c.t.d.def_ 35 (d := d__law_left) rfl
  obtain ⟨fd36, F36⟩ := c.t.d.def_ 36 (d := d__law_is_lot_right) rfl
  obtain ⟨fd37, F37⟩ := c.t.d.def_ 37 (d := d__law_is_turned_right) rfl
  obtain ⟨fd38, F38⟩ := c.t.d.def_ 38 (d := d_law) rfl
  refine ⟨fun i => match i with
    | 0 => fd0
    | 1 => fd1
    | 2 => fd2
    | 3 => fd3
    | 4 => fd4
    | 5 => fd5
    | 6 => fd6
    | 7 => fd7
    | 8 => fd8
    | 9 => fd9
    | 10 => fd10
    | 11 => fd11
    | 12 => fd12
    | 13 => fd13
    | 14 => fd14
    | 15 => fd15
    | 16 => fd16
    | 17 => fd17
    | 18 => fd18
    | 19 => fd19
    | 20 => fd20
    | 21 => fd21
    | 22 => fd22
    | 23 => fd23
    | 24 => fd24
    | 25 => fd25
    | 26 => fd26
    | 27 => fd27
    | 28 => fd28
    | 29 => fd29
    | 30 => fd30
    | 31 => fd31
    | 32 => fd32
    | 33 => fd33
    | 34 => fd34
    | 35 => fd35
    | 36 => fd36
    | 37 => fd37
    | 38 => fd38
    | _ => fd0, F38, fun base TB => ?_⟩
  exact {
    F0 := F0
    G0 := He.glo_ok X G (c.t.d.fact 0 (f := .glo "is_integer") rfl)
    F1 := F1
    G1 := He.glo_ok X G (c.t.d.fact 1 (f := .glo "is_within") rfl)
    F2 := F2
    G2 := He.glo_ok X G (c.t.d.fact 2 (f := .glo "two_to") rfl)
    F3 := F3
    G3 := He.glo_ok X G (c.t.d.fact 3 (f := .glo "bits_of") rfl)
    F4 := F4
    G4 := He.glo_ok X G (c.t.d.fact 11 (f := .glo "is_clause") rfl)
    F5 := F5
    G5 := He.glo_ok X G (c.t.d.fact 12 (f := .glo "is_clauses") rfl)
    F6 := F6
    G6 := He.glo_ok X G (c.t.d.fact 13 (f := .glo "check_clauses") rfl)
    F7 := F7
    G7 := He.glo_ok X G (c.t.d.fact 14 (f := .glo "many_in") rfl)
    F8 := F8
    G8 := He.glo_ok X G (c.t.d.fact 15 (f := .glo "holds_in") rfl)
    F9 := F9
    G9 := He.glo_ok X G (c.t.d.fact 16 (f := .glo "first_broken") rfl)
    F10 := F10
    G10 := He.glo_ok X G (c.t.d.fact 17 (f := .glo "models_of") rfl)
    F11 := F11
    G11 := He.glo_ok X G (c.t.d.fact 18 (f := .glo "joined") rfl)
    T11 := ⟨_, _, code_of F11 (p := ("joined", none)) rfl, TB (He.cT K ("joined", none)) (by simp [csL, tfL, lamL]), by simp [tbL, lamL], by simp [tbL, lamL]⟩
    F12 := F12
    G12 := He.glo_ok X G (c.t.d.fact 19 (f := .glo "is_part") rfl)
    F13 := F13
    G13 := He.glo_ok X G (c.t.d.fact 20 (f := .glo "thinned") rfl)
    F14 := F14
    G14 := He.glo_ok X G (c.t.d.fact 21 (f := .glo "left_by") rfl)
    F15 := F15
    G15 := He.glo_ok X G (c.t.d.fact 22 (f := .glo "is_lot") rfl)
    F16 := F16
    G16 := He.glo_ok X G (c.t.d.fact 23 (f := .glo "check_lot") rfl)
    F17 := F17
    G17 := He.glo_ok X G (c.t.d.fact 24 (f := .glo "given_lot") rfl)
    F18 := F18
    G18 := He.glo_ok X G (c.t.d.fact 25 (f := .glo "turned_atoms") rfl)
    F19 := F19
    G19 := He.glo_ok X G (c.t.d.fact 26 (f := .glo "is_names") rfl)
    F20 := F20
    G20 := He.glo_ok X G (c.t.d.fact 27 (f := .glo "_law_hand") rfl)
    F21 := F21
    G21 := He.glo_ok X G (c.t.d.fact 28 (f := .glo "_law_draw") rfl)
    F22 := F22
    G22 := He.glo_ok X G (c.t.d.fact 29 (f := .glo "_law_any") rfl)
    F23 := F23
    G23 := He.glo_ok X G (c.t.d.fact 30 (f := .glo "_law_mixed") rfl)
    F24 := F24
    G24 := He.glo_ok X G (c.t.d.fact 31 (f := .glo "_law_same") rfl)
    F25 := F25
    G25 := He.glo_ok X G (c.t.d.fact 32 (f := .glo "_law_clause") rfl)
    F26 := F26
    G26 := He.glo_ok X G (c.t.d.fact 33 (f := .glo "_law_clauses") rfl)
    F27 := F27
    G27 := He.glo_ok X G (c.t.d.fact 34 (f := .glo "_law_many") rfl)
    F28 := F28
    G28 := He.glo_ok X G (c.t.d.fact 35 (f := .glo "_law_atoms_of") rfl)
    F29 := F29
    G29 := He.glo_ok X G (c.t.d.fact 36 (f := .glo "_law_worlds") rfl)
    F30 := F30
    G30 := He.glo_ok X G (c.t.d.fact 37 (f := .glo "_law_breaks") rfl)
    F31 := F31
    G31 := He.glo_ok X G (c.t.d.fact 38 (f := .glo "_law_models") rfl)
    F32 := F32
    G32 := He.glo_ok X G (c.t.d.fact 39 (f := .glo "_law_joined") rfl)
    F33 := F33
    G33 := He.glo_ok X G (c.t.d.fact 40 (f := .glo "_law_has_all") rfl)
    F34 := F34
    G34 := He.glo_ok X G (c.t.d.fact 41 (f := .glo "_law_thin") rfl)
    F35 := F35
    G35 := He.glo_ok X G (c.t.d.fact 42 (f := .glo "_law_left") rfl)
    F36 := F36
    G36 := He.glo_ok X G (c.t.d.fact 43 (f := .glo "_law_is_lot_right") rfl)
    F37 := F37
    G37 := He.glo_ok X G (c.t.d.fact 44 (f := .glo "_law_is_turned_right") rfl)
    F38 := F38
    G38 := He.glo_ok X G (c.t.d.fact 45 (f := .glo "law") rfl)
    I_MOST_ATOMS := He.int_ok X G (c.t.d.fact 9 (f := .int "MOST_ATOMS" 12) rfl)
    I_MOST_CLAUSES := He.int_ok X G (c.t.d.fact 10 (f := .int "MOST_CLAUSES" 80) rfl)
    B_ValueError := He.free_ok X G (c.t.d.fact 46 (f := .free "ValueError") rfl)
    B_abs := He.free_ok X G (c.t.d.fact 47 (f := .free "abs") rfl)
    B_all := He.free_ok X G (c.t.d.fact 48 (f := .free "all") rfl)
    B_any := He.free_ok X G (c.t.d.fact 49 (f := .free "any") rfl)
    B_bool := He.free_ok X G (c.t.d.fact 50 (f := .free "bool") rfl)
    B_enumerate := He.free_ok X G (c.t.d.fact 51 (f := .free "enumerate") rfl)
    B_int := He.free_ok X G (c.t.d.fact 52 (f := .free "int") rfl)
    B_isinstance := He.free_ok X G (c.t.d.fact 53 (f := .free "isinstance") rfl)
    B_len := He.free_ok X G (c.t.d.fact 54 (f := .free "len") rfl)
    B_list := He.free_ok X G (c.t.d.fact 55 (f := .free "list") rfl)
    B_max := He.free_ok X G (c.t.d.fact 56 (f := .free "max") rfl)
    B_range := He.free_ok X G (c.t.d.fact 57 (f := .free "range") rfl)
    B_sorted := He.free_ok X G (c.t.d.fact 58 (f := .free "sorted") rfl)
    B_super := He.free_ok X G (c.t.d.fact 59 (f := .free "super") rfl)
    B_tuple := He.free_ok X G (c.t.d.fact 60 (f := .free "tuple") rfl)
    B_zip := He.free_ok X G (c.t.d.fact 61 (f := .free "zip") rfl)
  }
theorem done (hl : ∀ ns : List Int, ns.length ≤ 63 → (∀ z ∈ ns, Builtin.Int.intBits z ≤ 1048576) → g_law [.list (ns.map .int)] = .ok false (.bool true) []) : PySem.Challenge.rw_followways_k09_whole_thinned_left_turned.Holds := by
  w_on; o_law
  refine HandSHeadRun.head_any (r := PySem.W.OpenLaw.row PySem.Challenge.rw_followways_k09_whole_thinned_left_turned) (q := PySem.W.view (PySem.W.OpenLaw.row PySem.Challenge.rw_followways_k09_whole_thinned_left_turned).prog [49]) (H := hk) (ob := ob) (M := 3000) (loose := looseL) (d := HandSHeadRun.topDef (PySem.W.OpenLaw.row PySem.Challenge.rw_followways_k09_whole_thinned_left_turned).prog 49) (kwd := []) ob_eq
    (by kernel_rfl) (fun s => by kernel_rfl) run (by kernel_rfl) (by kernel_rfl) (by kernel_rfl) (by rfl) (by first | assumption | decide +kernel) (by decide +kernel) ⟨rfl, rfl, rfl, rfl, rfl, by decide +kernel⟩ ?hw ?hc
  case hw => w_witness2
  case hc =>
    refine LamX.walk_ofTsE (l := PySem.Challenge.rw_followways_k09_whole_thinned_left_turned) (n := 63) (k := 15) (x := "script") (CX := fun w => L2.CX (PySem.Challenge.rw_followways_k09_whole_thinned_left_turned).prog w) rfl (by decide) (by kernel_rfl) ⟨rfl, by decide, by decide⟩ ?F (fun w H s e s' z => cx_no z)
    intro w mg fl h Y G hmg0
    obtain ⟨K, KX, c⟩ := Y
    have hmg : mg ("law" : PySem.Str) = some (.ref fl) := by
      have e : (HandSHeadRun.topDef (PySem.W.OpenLaw.row PySem.Challenge.rw_followways_k09_whole_thinned_left_turned).prog 49).name = ("law" : PySem.Str) := by kernel_rfl
      rw [← e]
      exact hmg0
    obtain ⟨fdd, Fl, hs⟩ := facts KX G c
    have el : fl = fa K 38 := by
      have := hmg.symm.trans (He.glo_ok KX G (c.t.d.fact 45 (f := .glo "law") rfl))
      cases this; rfl
    subst el
    refine ⟨K, KX, fdd 38, csL K, spV K (fun _ => 0) (tbL K) [.pl] g_law, ?_, ?_, ?_, ?_, ?_, fun base KB GB TB => ok_law (hs base TB)⟩
    · intro p hp; obtain ⟨d, hd, e⟩ := List.mem_map.mp hp; subst e; exact c.empty d hd
    · intro p hp; obtain ⟨d, hd, e⟩ := List.mem_map.mp hp; subst e; exact c.out d hd
    · intro p hp; obtain ⟨d, hd, e⟩ := List.mem_map.mp hp; subst e; exact PySem.W.codeHd_of_K KX (c.hd d hd)
    · exact fun s v => (FunD.bindsA (ps := ["script"]) Fl fun _ _ _ _ _ _ us hl => match us, hl with | [_], _ => rfl) s [v] rfl
    · intro H a ns hn hb hT hS
      exact law_sp (fun p hp => by obtain ⟨d, hd, e⟩ := List.mem_map.mp hp; subst e; exact hT _ (List.mem_map.mpr ⟨d.1, List.mem_map.mpr ⟨d, hd, rfl⟩, rfl⟩)) hS (hl ns hn hb)
end Wk
set_option maxHeartbeats 0
theorem same_law : Wk.g_law = Lb.g_law := by kernel_rfl
theorem PySem.Challenge.cw_followways_k09_whole_thinned_left_turned_holds : PySem.Challenge.rw_followways_k09_whole_thinned_left_turned.Holds := by
  exact Wk.done fun ns hz hb => by
    rw [same_law]
    exact Lb.law hz fun z hz => PySem.intBits_le_iff.mp (hb z hz)
