import PyProof.Rows.All
import Wide.All
import OpenK.AllK
import Wide.FinOn
import HandS.ForMost
import HandS.ForExc
import HandS.Lambda
import KE.KDictKeyed
import HandS.Iter
import HandS.TupAny
import HandS.TupLe
import HandS.TupMul
import HandS.IsInst
import HandS.Text
import HandS.More
import HandS.Replace
import HandS.FStr
import HandS.Conv
import HandS.AnyAll
import HandS.GenList
import KE.KExcSuper
import HandS.ExcField
import HandS.ExcIs
import HandS.ExcInit
import HandS.TryMany
import HandS.Defaults
import HandS.HeadHook4
import HandS.Head0
import HandS.Head1
import HandS.Head2
import HandS.HeadEnd
import HandS.EndTab
import HandS.HeadWalk
import KE.GoesMore
import HandS.Zip
import HandS.List
import HandS.Property
import HandS.Dict
import PySem.Challenge.RW_keyboughs_k02_whole_ranks
set_option Elab.async false
set_option linter.all false
set_option maxRecDepth 100000
set_option maxHeartbeats 2000000
/-! RL: values as data, few objects as numbered cells; what code does as plain functions -/
namespace RL
open PySem PySem.Spec PyProof.Rows L2

inductive D where
  | non | bl (b : Bool) | int (i : Int) | str (x : Str) | tup (l : List D) | lst (l : List D) | scr (l : List D) | cel (n : Nat)
inductive Cell where
  | lst (l : List D)
  | ins (C : Addr) (fs : List (Str × D))
  | tab (P : Addr) (q : Str)
  | dic (w : World) (l : List (D × D))
abbrev Cs := List Cell
abbrev Sl := List (Option D)

def KTup (K : PySem.W.Frag) (a : Addr) (xs : List V) : Prop := ∃ (o : Obj) (its : Array Value) (n : Nat), K.lookup a = some o ∧ o.cls = .type "tuple" ∧ o.data = .seq its n ∧ its.size ≤ sizeLine ∧ Vals xs its.toList
/-- r: the cells; o: other objects that may change -/
def TupAt (K : PySem.W.Frag) (r o : List Addr) (H : Hp) (a : Addr) (xs : List V) : Prop := (a ∉ r ∧ a ∉ o ∧ Rd H a (.tup xs)) ∨ KTup K a xs
def LstAt (r o : List Addr) (H : Hp) (a : Addr) (xs : List V) : Prop := a ∉ r ∧ a ∉ o ∧ H a = some (.lst xs)
/-- the script: a list that nobody changes -/
def KLst (K : PySem.W.Frag) (a : Addr) (xs : List V) : Prop := ∃ (o : Obj) (its : Array Value) (n : Nat), K.lookup a = some o ∧ o.cls = .type "list" ∧ o.dict = none ∧ o.data = .seq its n ∧ its.size ≤ sizeLine ∧ Vals xs its.toList
def ScrAt (K : PySem.W.Frag) (r o : List Addr) (H : Hp) (a : Addr) (xs : List V) : Prop := (a ∉ r ∧ a ∉ o ∧ Rd H a (.lst xs)) ∨ KLst K a xs
theorem TupAt.sq {K r o H a xs} (h : TupAt K r o H a xs) : SqT K H a xs := h.elim (fun z => .inl z.2.2) .inr
theorem LstAt.sq {K r o H a xs} (h : LstAt r o H a xs) : SqL K H a xs := .inl (.inl h.2.2)
theorem ScrAt.sq {K r o H a xs} (h : ScrAt K r o H a xs) : SqL K H a xs := h.elim (fun z => .inl z.2.2) .inr

section
variable (K : PySem.W.Frag) (r o : List Addr) (H : Hp)
mutual
inductive Is : D → V → Prop
  | non : Is .non .non
  | bl {b} : Is (.bl b) (.bl b)
  | int {i} : Is (.int i) (.int i)
  | str {x} : Is (.str x) (.str x)
  | tup {l a us} : TupAt K r o H a us → IsL l us → Is (.tup l) (.ref a)
  | lst {l a us} : LstAt r o H a us → IsL l us → Is (.lst l) (.ref a)
  | scr {l a us} : ScrAt K r o H a us → IsL l us → Is (.scr l) (.ref a)
  | cel {n a} : r[n]? = some a → Is (.cel n) (.ref a)
inductive IsL : List D → List V → Prop
  | nil : IsL [] []
  | cons {d v ds vs} : Is d v → IsL ds vs → IsL (d :: ds) (v :: vs)
end
end
variable {K : PySem.W.Frag} {r r' r1 r2 o o' : List Addr} {H H' H1 H2 : Hp} {c c' c1 c2 : Cs}
theorem IsL.length : ∀ {ds vs}, IsL K r o H ds vs → ds.length = vs.length
  | _, _, .nil => rfl
  | _, _, .cons _ t => congrArg (· + 1) t.length
theorem IsL.get : ∀ {ds : List D} {vs : List V} {i : Nat} {d : D}, IsL K r o H ds vs → ds[i]? = some d → ∃ v, vs[i]? = some v ∧ Is K r o H d v
  | _, _, _, _, .nil, e => by simp at e
  | _, _, 0, _, .cons h _, e => by simp at e; subst e; exact ⟨_, rfl, h⟩
  | _, _, i + 1, d, .cons _ t, e => by
    obtain ⟨v, h1, h2⟩ := t.get (i := i) (d := d) (by simpa using e)
    exact ⟨v, by simpa using h1, h2⟩
theorem IsL.app : ∀ {ds es : List D} {vs ws : List V}, IsL K r o H ds vs → IsL K r o H es ws → IsL K r o H (ds ++ es) (vs ++ ws)
  | _, _, _, _, .nil, s => s
  | _, _, _, _, .cons h t, s => .cons h (t.app s)
theorem IsL.take : ∀ {ds : List D} {vs : List V} (n : Nat), IsL K r o H ds vs → IsL K r o H (ds.take n) (vs.take n)
  | _, _, 0, _ => .nil
  | _, _, _ + 1, .nil => .nil
  | _, _, n + 1, .cons h t => .cons h (t.take n)
theorem IsL.drop : ∀ {ds : List D} {vs : List V} (n : Nat), IsL K r o H ds vs → IsL K r o H (ds.drop n) (vs.drop n)
  | _, _, 0, h => h
  | _, _, _ + 1, .nil => .nil
  | _, _, n + 1, .cons _ t => t.drop n
theorem IsL.set {d : D} {v : V} (h : Is K r o H d v) : ∀ {ds : List D} {vs : List V} (i : Nat), IsL K r o H ds vs → IsL K r o H (ds.set i d) (vs.set i v)
  | _, _, _, .nil => .nil
  | _, _, 0, .cons _ t => .cons h t
  | _, _, i + 1, .cons q t => .cons q (t.set h i)
theorem IsL.dropLast {ds : List D} {vs : List V} (h : IsL K r o H ds vs) : IsL K r o H ds.dropLast vs.dropLast := by
  rw [List.dropLast_eq_take, List.dropLast_eq_take, h.length]; exact h.take _
theorem IsL.reverse : ∀ {ds : List D} {vs : List V}, IsL K r o H ds vs → IsL K r o H ds.reverse vs.reverse
  | _, _, .nil => .nil
  | _, _, .cons h t => by
    rw [List.reverse_cons, List.reverse_cons]
    exact t.reverse.app (.cons h .nil)
theorem Is.int_inv {i : Int} {v : V} (h : Is K r o H (.int i) v) : v = .int i := by cases h; rfl
theorem Is.bl_inv {i : Bool} {v : V} (h : Is K r o H (.bl i) v) : v = .bl i := by cases h; rfl
theorem Is.str_inv {i : Str} {v : V} (h : Is K r o H (.str i) v) : v = .str i := by cases h; rfl
theorem Is.non_inv {v : V} (h : Is K r o H .non v) : v = .non := by cases h; rfl
theorem Is.tup_inv {l : List D} {v : V} (h : Is K r o H (.tup l) v) : ∃ a us, v = .ref a ∧ TupAt K r o H a us ∧ IsL K r o H l us := by cases h with | tup a b => exact ⟨_, _, rfl, a, b⟩
theorem Is.lst_inv {l : List D} {v : V} (h : Is K r o H (.lst l) v) : ∃ a us, v = .ref a ∧ LstAt r o H a us ∧ IsL K r o H l us := by cases h with | lst a b => exact ⟨_, _, rfl, a, b⟩
theorem Is.cel_inv {n : Nat} {v : V} (h : Is K r o H (.cel n) v) : ∃ a, v = .ref a ∧ r[n]? = some a := by cases h with | cel a => exact ⟨_, rfl, a⟩
theorem IsL.ints : ∀ {ns : List Int} {vs : List V}, IsL K r o H (ns.map D.int) vs → vs = ns.map V.int
  | [], _, .nil => rfl
  | _ :: _, _, .cons h t => by rw [h.int_inv, t.ints]; rfl
theorem IsL.strs : ∀ {ns : List Str} {vs : List V}, IsL K r o H (ns.map D.str) vs → vs = ns.map V.str
  | [], _, .nil => rfl
  | _ :: _, _, .cons h t => by rw [h.str_inv, t.strs]; rfl

/-- what code may do to the heap: new cells behind the old ones; what is no cell stands -/
structure Step (r : List Addr) (H : Hp) (r' : List Addr) (H' : Hp) : Prop where
  pre : ∃ new, r' = r ++ new ∧ ∀ a ∈ new, H a = none ∧ a ∉ r
  keep : ∀ a u, H a = some u → a ∉ r → H' a = some u
theorem Step.refl : Step r H r H := ⟨⟨[], by simp, by simp⟩, fun _ _ e _ => e⟩
theorem Step.nin (s : Step r H r' H') {a u} (e : H a = some u) (h : a ∉ r) : a ∉ r' := by
  obtain ⟨new, rfl, hn⟩ := s.pre
  intro z
  rcases List.mem_append.mp z with z | z
  · exact h z
  · rw [(hn a z).1] at e; cases e
theorem Step.trans (s : Step r H r1 H1) (t : Step r1 H1 r2 H2) : Step r H r2 H2 := by
  refine ⟨?_, fun a u e h => t.keep a u (s.keep a u e h) (s.nin e h)⟩
  obtain ⟨n1, e1, h1⟩ := s.pre
  obtain ⟨n2, e2, h2⟩ := t.pre
  refine ⟨n1 ++ n2, by rw [e2, e1, List.append_assoc], fun a ha => ?_⟩
  rcases List.mem_append.mp ha with z | z
  · exact h1 a z
  · have hr : a ∉ r := fun q => (h2 a z).2 (by rw [e1]; exact List.mem_append_left _ q)
    refine ⟨?_, hr⟩
    cases e : H a with
    | none => rfl
    | some u =>
      have q := s.keep a u e hr
      rw [(h2 a z).1] at q; cases q
theorem Step.at (s : Step r H r' H') {n : Nat} {a : Addr} (h : r[n]? = some a) : r'[n]? = some a := by
  obtain ⟨new, rfl, _⟩ := s.pre
  rw [List.getElem?_append_left (List.getElem?_eq_some_iff.mp h).1]; exact h
theorem Step.rd (s : Step r H r' H') {a : Addr} {u : HO} (h1 : a ∉ r) (h2 : Rd H a u) : a ∉ r' ∧ Rd H' a u := by
  rcases h2 with h2 | ⟨b, h2⟩
  · exact ⟨s.nin h2 h1, .inl (s.keep _ _ h2 h1)⟩
  · exact ⟨s.nin h2 h1, .inr ⟨b, s.keep _ _ h2 h1⟩⟩
theorem TupAt.mono (s : Step r H r' H') {a xs} (h : TupAt K r o H a xs) : TupAt K r' o H' a xs := h.elim (fun z => .inl ⟨(s.rd z.1 z.2.2).1, z.2.1, (s.rd z.1 z.2.2).2⟩) .inr
theorem LstAt.mono (s : Step r H r' H') {a xs} (h : LstAt r o H a xs) : LstAt r' o H' a xs := ⟨s.nin h.2.2 h.1, h.2.1, s.keep _ _ h.2.2 h.1⟩
theorem ScrAt.mono (s : Step r H r' H') {a xs} (h : ScrAt K r o H a xs) : ScrAt K r' o H' a xs := h.elim (fun z => .inl ⟨(s.rd z.1 z.2.2).1, z.2.1, (s.rd z.1 z.2.2).2⟩) .inr
mutual
theorem Is.mono (s : Step r H r' H') : ∀ {d v}, Is K r o H d v → Is K r' o H' d v
  | _, _, .non => .non
  | _, _, .bl => .bl
  | _, _, .int => .int
  | _, _, .str => .str
  | _, _, .tup a b => .tup (a.mono s) (IsL.mono s b)
  | _, _, .lst a b => .lst (a.mono s) (IsL.mono s b)
  | _, _, .scr a b => .scr (a.mono s) (IsL.mono s b)
  | _, _, .cel a => .cel (s.at a)
theorem IsL.mono (s : Step r H r' H') : ∀ {ds vs}, IsL K r o H ds vs → IsL K r' o H' ds vs
  | _, _, .nil => .nil
  | _, _, .cons a b => .cons (Is.mono s a) (IsL.mono s b)
end
/-- another heap, as far as data see it -/
def Sees (r o : List Addr) (H : Hp) (o' : List Addr) (H' : Hp) : Prop := ∀ a u, a ∉ r → a ∉ o → H a = some u → a ∉ o' ∧ H' a = some u
theorem Sees.rd (s : Sees r o H o' H') {a : Addr} {u : HO} (h1 : a ∉ r) (h2 : a ∉ o) (h3 : Rd H a u) : a ∉ o' ∧ Rd H' a u := by
  rcases h3 with h3 | ⟨b, h3⟩
  · exact ⟨(s _ _ h1 h2 h3).1, .inl (s _ _ h1 h2 h3).2⟩
  · exact ⟨(s _ _ h1 h2 h3).1, .inr ⟨b, (s _ _ h1 h2 h3).2⟩⟩
mutual
theorem Is.sees (s : Sees r o H o' H') : ∀ {d v}, Is K r o H d v → Is K r o' H' d v
  | _, _, .non => .non
  | _, _, .bl => .bl
  | _, _, .int => .int
  | _, _, .str => .str
  | _, _, .tup a b => .tup (a.elim (fun z => .inl ⟨z.1, s.rd z.1 z.2.1 z.2.2⟩) .inr) (IsL.sees s b)
  | _, _, .lst a b => .lst ⟨a.1, (s _ _ a.1 a.2.1 a.2.2).1, (s _ _ a.1 a.2.1 a.2.2).2⟩ (IsL.sees s b)
  | _, _, .scr a b => .scr (a.elim (fun z => .inl ⟨z.1, s.rd z.1 z.2.1 z.2.2⟩) .inr) (IsL.sees s b)
  | _, _, .cel a => .cel a
theorem IsL.sees (s : Sees r o H o' H') : ∀ {ds vs}, IsL K r o H ds vs → IsL K r o' H' ds vs
  | _, _, .nil => .nil
  | _, _, .cons a b => .cons (Is.sees s a) (IsL.sees s b)
end

/-! ### cells -/
def IsF (K : PySem.W.Frag) (r o : List Addr) (H : Hp) (fs : List (Str × D)) (vs : List (Str × V)) : Prop := fs.map (·.1) = vs.map (·.1) ∧ IsL K r o H (fs.map (·.2)) (vs.map (·.2))
theorem IsF.mono (s : Step r H r' H') {fs vs} (h : IsF K r o H fs vs) : IsF K r' o H' fs vs := ⟨h.1, h.2.mono s⟩
theorem IsF.sees (s : Sees r o H o' H') {fs vs} (h : IsF K r o H fs vs) : IsF K r o' H' fs vs := ⟨h.1, h.2.sees s⟩
/-- a table of code objects of one name -/
def TabC (r o : List Addr) (H : Hp) (P : Addr) (q : Str) : Prop := ∃ ps : Array Value, H P = some (.tbl ps) ∧ TriplesOk ps.toList ∧ ∀ (pos : Pos) (cv : Value), codeAmong pos ps.toList = some cv → ∃ c, cv = .ref c ∧ H c = some (LamX.CodeO c q) ∧ c ∉ r ∧ c ∉ o
mutual
/-- a dict's key -/
def nkD : D → PySem.NestedKey
  | .non => .none
  | .bl b => .num (if b = true then 1 else 0)
  | .int i => .num i
  | .str x => .text x
  | .tup l => .tup (nkL l)
  | _ => .none
def nkL : List D → List PySem.NestedKey
  | [] => []
  | d :: ds => nkD d :: nkL ds
end
/-- a dict by its keys, in order; us the keys themselves, vs what they stand for -/
def dicO (w : World) (a : Addr) (ks : List PySem.NestedKey) (us vs : List V) : HO := .ext fun h => (a == sysModules) = false ∧ ∃ ys : List (PySem.NestedKey × Addr × Value), ys.map (·.1) = ks ∧ ys.map (fun y => V.ref y.2.1) = us ∧ Vals vs (ys.map (·.2.2)) ∧
  ∃ o es ep, h.get? a = some o ∧ o.ExactDict ∧ o.data = .dict es ep ∧ es.toList = ys.map (fun y => (⟨y.1.hash w, .ref y.2.1, y.2.2⟩ : DictEntry)) ∧ ks.Nodup
def CellAt (K : PySem.W.Frag) (r o : List Addr) (H : Hp) (a : Addr) : Cell → Prop
  | .lst l => ∃ us, H a = some (.lst us) ∧ IsL K r o H l us
  | .ins C fs => ∃ dx vs, H a = some (.ins C dx vs) ∧ (H dx = some (.own a) ∧ dx ∉ r ∧ dx ∉ o) ∧ IsF K r o H fs vs
  | .tab P q => a = P ∧ TabC r o H P q
  | .dic w l => ∃ us vs, H a = some (dicO w a (l.map fun p => nkD p.1) us vs) ∧ IsL K r o H (l.map (·.1)) us ∧ IsL K r o H (l.map (·.2)) vs
structure Cells (K : PySem.W.Frag) (r o : List Addr) (c : Cs) (H : Hp) : Prop where
  len : r.length = c.length
  nd : r.Nodup
  out : ∀ a ∈ r, a ∉ o
  live : ∀ a ∈ o, ∃ xs, H a = some (.lst xs)
  ok : ∀ (n : Nat) (a : Addr) (x : Cell), r[n]? = some a → c[n]? = some x → CellAt K r o H a x
theorem Cells.get (h : Cells K r o c H) {n : Nat} {x : Cell} (e : c[n]? = some x) : ∃ a, r[n]? = some a ∧ CellAt K r o H a x := by
  have hn : n < r.length := by rw [h.len]; exact (List.getElem?_eq_some_iff.mp e).1
  exact ⟨r[n], List.getElem?_eq_getElem hn, h.ok n _ x (List.getElem?_eq_getElem hn) e⟩
theorem Cells.there (h : Cells K r o c H) {a : Addr} (ha : a ∈ r) : ∃ u, H a = some u := by
  obtain ⟨n, hn, e⟩ := List.getElem_of_mem ha
  have hc : n < c.length := by rw [← h.len]; exact hn
  have q := h.ok n a c[n] (by rw [List.getElem?_eq_getElem hn, e]) (List.getElem?_eq_getElem hc)
  cases e2 : c[n] with
  | lst l => rw [e2] at q; obtain ⟨us, q, _⟩ := q; exact ⟨_, q⟩
  | ins C fs => rw [e2] at q; obtain ⟨dx, us, q, _⟩ := q; exact ⟨_, q⟩
  | tab P q' => rw [e2] at q; obtain ⟨rfl, ps, q, _⟩ := q; exact ⟨_, q⟩
  | dic w l => rw [e2] at q; obtain ⟨us, vs, q, _⟩ := q; exact ⟨_, q⟩
theorem Cells.ne (h : Cells K r o c H) {p a : Addr} (hp : H p = none) (ha : a ∈ r) : a ≠ p := by
  obtain ⟨u, e⟩ := h.there ha
  intro z; rw [z, hp] at e; cases e
theorem Cells.fresh (h : Cells K r o c H) {p : Addr} (hp : H p = none) : p ∉ r := fun z => h.ne hp z rfl
/-- cells through a change that keeps their own objects -/
theorem Cells.via (h : Cells K r o c H) (ho : ∀ a ∈ r, a ∉ o') (hl : ∀ a ∈ o', ∃ xs, H' a = some (.lst xs)) (ha : ∀ a ∈ r, H' a = H a) (s : Sees r o H o' H') : Cells K r o' c H' := by
  refine ⟨h.len, h.nd, ho, hl, fun n a x e1 e2 => ?_⟩
  have q := h.ok n a x e1 e2
  have hr : a ∈ r := List.mem_of_getElem? e1
  cases x with
  | lst l => obtain ⟨us, q1, q2⟩ := q; exact ⟨us, by rw [ha a hr]; exact q1, q2.sees s⟩
  | ins C fs =>
    obtain ⟨dx, us, q1, q2, q4⟩ := q
    exact ⟨dx, us, by rw [ha a hr]; exact q1, ⟨(s dx _ q2.2.1 q2.2.2 q2.1).2, q2.2.1, (s dx _ q2.2.1 q2.2.2 q2.1).1⟩, q4.sees s⟩
  | tab P q' =>
    obtain ⟨rfl, ps, q1, q2, q3⟩ := q
    refine ⟨rfl, ps, by rw [ha a hr]; exact q1, q2, fun pos cv hcv => ?_⟩
    obtain ⟨c', e1, e2, e3, e4⟩ := q3 pos cv hcv
    exact ⟨c', e1, (s c' _ e3 e4 e2).2, e3, (s c' _ e3 e4 e2).1⟩
  | dic w l => obtain ⟨us, vs, q1, q2, q3⟩ := q; exact ⟨us, vs, by rw [ha a hr]; exact q1, q2.sees s, q3.sees s⟩
/-- a new object that is no cell -/
theorem Step.new {p : Addr} {u : HO} (hp : H p = none) : Step r H r (upd H p u) := ⟨⟨[], by simp, by simp⟩, fun a w e _ => by rw [upd_ne (ne_of_none e hp)]; exact e⟩
theorem Sees.new {p : Addr} {u : HO} (hp : H p = none) : Sees r o H o (upd H p u) := fun a w _ h2 e => ⟨h2, by rw [upd_ne (ne_of_none e hp)]; exact e⟩
theorem Cells.new (h : Cells K r o c H) {p : Addr} {u : HO} (hp : H p = none) : Cells K r o c (upd H p u) := h.via h.out (fun a ha => by obtain ⟨w, e⟩ := h.live a ha; exact ⟨w, by rw [upd_ne (ne_of_none e hp)]; exact e⟩) (fun a ha => by rw [upd_ne (h.ne hp ha)]) (Sees.new hp)
/-- a new object that may change -/
theorem Sees.avoid {p : Addr} {u : HO} (hp : H p = none) : Sees r o H (p :: o) (upd H p u) := fun a w _ h2 e =>
  ⟨by simp only [List.mem_cons, not_or]; exact ⟨ne_of_none e hp, h2⟩, by rw [upd_ne (ne_of_none e hp)]; exact e⟩
theorem Cells.avoid (h : Cells K r o c H) {p : Addr} {xs : List V} (hp : H p = none) : Cells K r (p :: o) c (upd H p (.lst xs)) :=
  h.via (fun a ha => by simp only [List.mem_cons, not_or]; exact ⟨h.ne hp ha, h.out a ha⟩) (fun a ha => (List.mem_cons.mp ha).elim (fun z => ⟨xs, by rw [z, upd_same]⟩) fun z => by obtain ⟨w, e⟩ := h.live a z; exact ⟨w, by rw [upd_ne (ne_of_none e hp)]; exact e⟩) (fun a ha => by rw [upd_ne (h.ne hp ha)]) (Sees.avoid hp)
/-- .. changes -/
theorem Sees.turn {p : Addr} {u : HO} : Sees r (p :: o) H (p :: o) (upd H p u) := fun a w _ h2 e => ⟨h2, by rw [upd_ne (fun z => h2 (by simp [z]))]; exact e⟩
theorem Cells.turn (h : Cells K r (p :: o) c H) {xs : List V} : Cells K r (p :: o) c (upd H p (.lst xs)) := h.via h.out (fun a ha => by
    by_cases e : a = p
    · exact ⟨xs, by rw [e, upd_same]⟩
    · obtain ⟨w, e2⟩ := h.live a ha; exact ⟨w, by rw [upd_ne e]; exact e2⟩) (fun a ha => by rw [upd_ne (fun z => h.out a ha (by simp [z]))]) Sees.turn
/-- .. and changes no more -/
theorem Sees.rest {p : Addr} : Sees r (p :: o) H o H := fun a w _ h2 e => ⟨fun z => h2 (by simp [z]), e⟩
theorem Cells.rest (h : Cells K r (p :: o) c H) : Cells K r o c H := h.via (fun a ha z => h.out a ha (by simp [z])) (fun a ha => h.live a (by simp [ha])) (fun _ _ => rfl) Sees.rest
/-- a new list that is a cell -/
theorem Step.cell {p : Addr} {u : HO} (hp : H p = none) (hr : p ∉ r) : Step r H (r ++ [p]) (upd H p u) :=
  ⟨⟨[p], rfl, fun a ha => by rw [List.mem_singleton.mp ha]; exact ⟨hp, hr⟩⟩, fun a w e _ => by rw [upd_ne (ne_of_none e hp)]; exact e⟩
theorem CellAt.mono (s : Step r H r' H') {a : Addr} (hk : H' a = H a) {x : Cell} (q : CellAt K r o H a x) : CellAt K r' o H' a x := by
  cases x with
  | lst l => obtain ⟨us, q1, q2⟩ := q; exact ⟨us, by rw [hk]; exact q1, q2.mono s⟩
  | ins C fs =>
    obtain ⟨dx, us, q1, q2, q4⟩ := q
    exact ⟨dx, us, by rw [hk]; exact q1, ⟨s.keep _ _ q2.1 q2.2.1, s.nin q2.1 q2.2.1, q2.2.2⟩, q4.mono s⟩
  | tab P q' =>
    obtain ⟨rfl, ps, q1, q2, q3⟩ := q
    refine ⟨rfl, ps, by rw [hk]; exact q1, q2, fun pos cv hcv => ?_⟩
    obtain ⟨c', e1, e2, e3, e4⟩ := q3 pos cv hcv
    exact ⟨c', e1, s.keep _ _ e2 e3, s.nin e2 e3, e4⟩
  | dic w l => obtain ⟨us, vs, q1, q2, q3⟩ := q; exact ⟨us, vs, by rw [hk]; exact q1, q2.mono s, q3.mono s⟩
theorem Cells.freshO (h : Cells K r o c H) {p : Addr} (hp : H p = none) : p ∉ o := fun z => by
  obtain ⟨u, e⟩ := h.live p z
  rw [hp] at e; cases e
theorem Cells.liveS (h : Cells K r o c H) (st : Step r H r' H') : ∀ a ∈ o, ∃ xs, H' a = some (.lst xs) := fun a ha => by
  obtain ⟨u, e⟩ := h.live a ha
  exact ⟨u, st.keep a _ e fun z => h.out a z ha⟩
theorem Cells.more (h : Cells K r o c H) {p : Addr} {x : Cell} {H' : Hp} (hp : H p = none) (st : Step r H (r ++ [p]) H') (hk : ∀ a ∈ r, H' a = H a) (hx : CellAt K (r ++ [p]) o H' p x) : Cells K (r ++ [p]) o (c ++ [x]) H' := by
  refine ⟨by simp [h.len], by
    rw [List.nodup_append]
    refine ⟨h.nd, by simp, fun a ha b hb => ?_⟩
    rw [List.mem_singleton.mp hb]; exact h.ne hp ha, fun a ha => ?_, h.liveS st, fun n a x e1 e2 => ?_⟩
  · rcases List.mem_append.mp ha with z | z
    · exact h.out a z
    · rw [List.mem_singleton.mp z]; exact h.freshO hp
  by_cases hn : n < r.length
  · rw [List.getElem?_append_left hn] at e1
    rw [List.getElem?_append_left (by rw [← h.len]; exact hn)] at e2
    exact (h.ok n a x e1 e2).mono st (hk a (List.mem_of_getElem? e1))
  · have hn2 : n = r.length := by
      have := (List.getElem?_eq_some_iff.mp e1).1
      rw [List.length_append] at this
      simp at this; omega
    subst hn2
    rw [List.getElem?_append_right (Nat.le_refl _)] at e1
    rw [h.len, List.getElem?_append_right (Nat.le_refl _)] at e2
    simp at e1 e2
    subst e1; subst e2
    exact hx
theorem Cells.cell (h : Cells K r o c H) {p : Addr} {l : List D} {us : List V} (hp : H p = none) (hl : IsL K r o H l us) : Cells K (r ++ [p]) o (c ++ [.lst l]) (upd H p (.lst us)) :=
  h.more hp (Step.cell hp (h.fresh hp)) (fun a ha => by rw [upd_ne (h.ne hp ha)]) ⟨us, upd_same, hl.mono (Step.cell hp (h.fresh hp))⟩
/-- a cell is changed -/
theorem Step.mut {a : Addr} {u : HO} (ha : a ∈ r) : Step r H r (upd H a u) := ⟨⟨[], by simp, by simp⟩, fun b w e hb => by rw [upd_ne (fun z => hb (by rw [z]; exact ha))]; exact e⟩
theorem Cells.setX (h : Cells K r o c H) {n : Nat} {a : Addr} {x : Cell} {u : HO} (e : r[n]? = some a) (hx : CellAt K r o (upd H a u) a x) : Cells K r o (c.set n x) (upd H a u) := by
  have ha : a ∈ r := List.mem_of_getElem? e
  have st := Step.mut (r := r) (H := H) (u := u) ha
  refine ⟨by simp [h.len], h.nd, h.out, h.liveS st, fun m b y e1 e2 => ?_⟩
  by_cases hm : m = n
  · subst hm
    rw [e] at e1; cases e1
    have hlt : m < c.length := by rw [← h.len]; exact (List.getElem?_eq_some_iff.mp e).1
    rw [List.getElem?_set_self hlt] at e2
    cases e2
    exact hx
  · rw [List.getElem?_set_ne (Ne.symm hm)] at e2
    have nb : b ≠ a := fun z => by
      subst z
      obtain ⟨h1, e3⟩ := List.getElem?_eq_some_iff.mp e1
      obtain ⟨h2, e4⟩ := List.getElem?_eq_some_iff.mp e
      exact hm ((List.getElem_inj h.nd).mp (e3.trans e4.symm))
    exact (h.ok m b y e1 e2).mono st (upd_ne nb)
theorem Cells.setL (h : Cells K r o c H) {n : Nat} {a : Addr} {l : List D} {us : List V} (e : r[n]? = some a) (hl : IsL K r o H l us) : Cells K r o (c.set n (.lst l)) (upd H a (.lst us)) :=
  h.setX e ⟨us, upd_same, hl.mono (Step.mut (List.mem_of_getElem? e))⟩
end RL

/-! ### results, what code is worth -/
namespace RL
open PySem PySem.Spec PyProof.Rows L2
structure Exc where
  C : Addr
  fs : List (Str × D)
inductive Res (α : Type) where
  | ok (a : α) (c : Cs) | err (x : Exc) (c : Cs) | bad
def Res.bind {α β : Type} : Res α → (α → Cs → Res β) → Res β
  | .ok a c, f => f a c
  | .err x c, _ => .err x c
  | .bad, _ => .bad
@[simp] theorem Res.bind_ok {α β : Type} {a : α} {c : Cs} {f : α → Cs → Res β} : (Res.ok a c).bind f = f a c := rfl
@[simp] theorem Res.bind_err {α β : Type} {x : Exc} {c : Cs} {f : α → Cs → Res β} : (Res.err x c : Res α).bind f = .err x c := rfl
@[simp] theorem Res.bind_bad {α β : Type} {f : α → Cs → Res β} : (Res.bad : Res α).bind f = .bad := rfl
/-- how a statement ends -/
inductive SR where
  | nx (s : Sl) (c : Cs) | rt (d : D) (c : Cs) | bk (s : Sl) (c : Cs) | ct (s : Sl) (c : Cs) | err (x : Exc) (s : Sl) (c : Cs) | bad
abbrev FE := Sl → Cs → Res D
abbrev FT := Sl → Cs → Res Bool
abbrev FA := Sl → Cs → Res (List D)
abbrev FS := Sl → Cs → SR

variable {K : PySem.W.Frag} {r r' r1 r2 o o' : List Addr} {H H' H1 H2 : Hp} {c c' c1 c2 : Cs}
def ExcAt (K : PySem.W.Frag) (r o : List Addr) (H : Hp) (x : Exc) (cls : Value) (dx : Option Addr) : Prop :=
  cls = .ref x.C ∧ ∃ (d : Addr) (vs : List (Str × V)), dx = some d ∧ H d = some (.xd vs) ∧ d ∉ r ∧ d ∉ o ∧ IsF K r o H x.fs vs
theorem ExcAt.sees (s : Sees r o H o' H') {x cls dx} (h : ExcAt K r o H x cls dx) : ExcAt K r o' H' x cls dx := by
  obtain ⟨e, d, vs, e2, h1, h2, h3, h4⟩ := h
  exact ⟨e, d, vs, e2, (s d _ h2 h3 h1).2, h2, (s d _ h2 h3 h1).1, h4.sees s⟩
def SlOk (K : PySem.W.Frag) (r o : List Addr) (H : Hp) (s : Sl) (t : L2.St) : Prop :=
  s.length = t.length ∧ ∀ (i : Nat) (d : D), s[i]? = some (some d) → ∃ v, t[i]? = some (some v) ∧ Is K r o H d v
theorem SlOk.mono (st : Step r H r' H') {s t} (h : SlOk K r o H s t) : SlOk K r' o H' s t := ⟨h.1, fun i d e => let ⟨v, a, b⟩ := h.2 i d e; ⟨v, a, b.mono st⟩⟩
theorem SlOk.sees (st : Sees r o H o' H') {s t} (h : SlOk K r o H s t) : SlOk K r o' H' s t := ⟨h.1, fun i d e => let ⟨v, a, b⟩ := h.2 i d e; ⟨v, a, b.sees st⟩⟩
theorem SlOk.set {s t} (h : SlOk K r o H s t) (i : Nat) {d v} (q : Is K r o H d v) : SlOk K r o H (s.set i (some d)) (t.set i (some v)) := by
  refine ⟨by simp [h.1], fun j e hj => ?_⟩
  by_cases hij : j = i
  · subst hij
    have hl : j < s.length := by
      have := (List.getElem?_eq_some_iff.mp hj).1
      simpa using this
    rw [List.getElem?_set_self hl] at hj
    cases hj
    exact ⟨v, by rw [List.getElem?_set_self (by rw [← h.1]; exact hl)], q⟩
  · rw [List.getElem?_set_ne (Ne.symm hij)] at hj
    obtain ⟨w, a, b⟩ := h.2 j e hj
    exact ⟨w, by rw [List.getElem?_set_ne (Ne.symm hij)]; exact a, b⟩
theorem SlOk.forget {s t} (h : SlOk K r o H s t) (i : Nat) : SlOk K r o H (s.set i none) (t.set i none) := by
  refine ⟨by simp [h.1], fun j e hj => ?_⟩
  by_cases hij : j = i
  · subst hij
    have hl : j < s.length := by
      have := (List.getElem?_eq_some_iff.mp hj).1
      simpa using this
    rw [List.getElem?_set_self hl] at hj
    cases hj
  · rw [List.getElem?_set_ne (Ne.symm hij)] at hj
    obtain ⟨w, a, b⟩ := h.2 j e hj
    exact ⟨w, by rw [List.getElem?_set_ne (Ne.symm hij)]; exact a, b⟩

section
variable (K : PySem.W.Frag) (W : WX)
/-- the end of what has a value: R tells how the two values hang together -/
def OkG {α β : Type} (R : List Addr → List Addr → Hp → α → β → Prop) (r o : List Addr) (H : Hp) (t : L2.St) (Q : β → Hp → Prop) : Res α → Prop
  | .ok a c' => ∀ r' H' v, Step r H r' H' → Cells K r' o c' H' → R r' o H' a v → Q v H'
  | .err x c' => ∀ r' H' cls dx, Step r H r' H' → Cells K r' o c' H' → ExcAt K r' o H' x cls dx → W cls dx t H'
  | .bad => False
def RB : List Addr → List Addr → Hp → Bool → Bool → Prop := fun _ _ _ a b => a = b
def SndE (te : TE) (f : FE) : Prop := ∀ r o c s H t Q, Cells K r o c H → SlOk K r o H s t → OkG K W (Is K) r o H t Q (f s c) → te t H Q
def SndT (tt : TT) (f : FT) : Prop := ∀ r o c s H t Q, Cells K r o c H → SlOk K r o H s t → OkG K W RB r o H t Q (f s c) → tt t H Q
def SndA (ta : TA) (f : FA) : Prop := ∀ r o c s H t Q, Cells K r o c H → SlOk K r o H s t → OkG K W (IsL K) r o H t Q (f s c) → ta t H Q
def OkS (r o : List Addr) (H : Hp) (D : Ends) : SR → Prop
  | .nx s c' => ∀ r' H' t, Step r H r' H' → Cells K r' o c' H' → SlOk K r' o H' s t → D.nx t H'
  | .rt d c' => ∀ r' H' v, Step r H r' H' → Cells K r' o c' H' → Is K r' o H' d v → D.rt v H'
  | .bk s c' => ∀ r' H' t, Step r H r' H' → Cells K r' o c' H' → SlOk K r' o H' s t → D.bk t H'
  | .ct s c' => ∀ r' H' t, Step r H r' H' → Cells K r' o c' H' → SlOk K r' o H' s t → D.ct t H'
  | .err x s c' => ∀ r' H' t cls dx, Step r H r' H' → Cells K r' o c' H' → SlOk K r' o H' s t → ExcAt K r' o H' x cls dx → W cls dx t H'
  | .bad => False
def SndS (ts : TS) (f : FS) : Prop := ∀ r o c s H t D, Cells K r o c H → SlOk K r o H s t → OkS K W r o H D (f s c) → ts D t H
end
variable {W : WX} {α β γ δ : Type} {R : List Addr → List Addr → Hp → α → β → Prop} {t : L2.St}
theorem OkG.step {Q : β → Hp → Prop} (st : Step r H r1 H1) {x : Res α} (h : OkG K W R r o H t Q x) : OkG K W R r1 o H1 t Q x := by
  cases x with
  | ok a c' => exact fun r' H' v s' => h r' H' v (st.trans s')
  | err x c' => exact fun r' H' cls dx s' => h r' H' cls dx (st.trans s')
  | bad => exact h
theorem OkS.step {D : Ends} (st : Step r H r1 H1) {x : SR} (h : OkS K W r o H D x) : OkS K W r1 o H1 D x := by
  cases x with
  | nx s c' => exact fun r' H' v s' => h r' H' v (st.trans s')
  | rt s c' => exact fun r' H' v s' => h r' H' v (st.trans s')
  | bk s c' => exact fun r' H' v s' => h r' H' v (st.trans s')
  | ct s c' => exact fun r' H' v s' => h r' H' v (st.trans s')
  | err x s c' => exact fun r' H' t cls dx s' => h r' H' t cls dx (st.trans s')
  | bad => exact h
theorem ok_bind {R1 : List Addr → List Addr → Hp → α → β → Prop} {Rg : List Addr → List Addr → Hp → γ → δ → Prop} {Q1 : β → Hp → Prop} {Q : δ → Hp → Prop} {x : Res α} {g : α → Cs → Res γ} (h : OkG K W Rg r o H t Q (x.bind g))
    (k : ∀ a c1 r1 H1 v, Step r H r1 H1 → Cells K r1 o c1 H1 → R1 r1 o H1 a v → OkG K W Rg r1 o H1 t Q (g a c1) → Q1 v H1) : OkG K W R1 r o H t Q1 x := by
  cases x with
  | ok a c1 => exact fun r1 H1 v s1 hc hv => k a c1 r1 H1 v s1 hc hv (OkG.step s1 h)
  | err x c1 => exact h
  | bad => exact h
/-- an end that is reached -/
theorem OkG.here {Q : β → Hp → Prop} {a : α} {v : β} (h : OkG K W R r o H t Q (.ok a c)) (hc : Cells K r o c H) (hv : R r o H a v) : Q v H := h _ _ _ Step.refl hc hv

/-! ### names, constants -/
def eVar (i : Nat) : FE := fun s c => match s[i]? with | some (some d) => .ok d c | _ => .bad
def eC (d : D) : FE := fun _ c => .ok d c
theorem snd_var {i : Nat} : SndE K W (tVar i) (eVar i) := fun r o c s H t Q hc hs h => by
  unfold eVar at h
  cases e : s[i]? with
  | none => rw [e] at h; exact h.elim
  | some z =>
    cases z with
    | none => rw [e] at h; exact h.elim
    | some d =>
      rw [e] at h
      obtain ⟨v, e1, e2⟩ := hs.2 i d e
      exact ⟨v, e1, h.here hc e2⟩
theorem snd_int {i : Int} : SndE K W (tC (.int i)) (eC (.int i)) := fun _ _ _ _ _ _ _ hc _ h => h.here hc .int
theorem snd_str {x : Str} : SndE K W (tC (.str x)) (eC (.str x)) := fun _ _ _ _ _ _ _ hc _ h => h.here hc .str
theorem snd_bl {b : Bool} : SndE K W (tC (.bl b)) (eC (.bl b)) := fun _ _ _ _ _ _ _ hc _ h => h.here hc .bl
theorem snd_non : SndE K W (tC .non) (eC .non) := fun _ _ _ _ _ _ _ hc _ h => h.here hc .non
/-- a constant of the top: a written tuple, .. -/
theorem snd_k {d : D} {v : V} (hk : ∀ r o H, Is K r o H d v) : SndE K W (tC v) (eC d) := fun _ _ _ _ _ _ _ hc _ h => h.here hc (hk _ _ _)
/-! ### argument lists, displays -/
def aNil : FA := fun _ c => .ok [] c
def aCons (f : FE) (g : FA) : FA := fun s c => (f s c).bind fun d c1 => (g s c1).bind fun ds c2 => .ok (d :: ds) c2
theorem snd_nil : SndA K W tNil aNil := fun _ _ _ _ _ _ _ hc _ h => h.here hc .nil
theorem snd_cons {te : TE} {ta : TA} {f : FE} {g : FA} (hf : SndE K W te f) (hg : SndA K W ta g) : SndA K W (tCons te ta) (aCons f g) := fun r o c s H t Q hc hs h =>
  hf r o c s H t _ hc hs (ok_bind h fun d c1 r1 H1 v s1 hc1 hv h1 => hg r1 o c1 s H1 t _ hc1 (hs.mono s1) (ok_bind h1 fun ds c2 r2 H2 vs s2 hc2 hvs h2 => h2.here hc2 (.cons (hv.mono s2) hvs)))
def eTup (f : FA) : FE := fun s c => (f s c).bind fun ds c1 => if ds.length ≤ 100000 then .ok (.tup ds) c1 else .bad
theorem big_le {n : Nat} (h : n ≤ 100000) : n ≤ sizeLine := Nat.le_trans h (by decide)
theorem Is.newTup (hc : Cells K r o c H) {p : Addr} {ds : List D} {us : List V} (hp : H p = none) (h : IsL K r o H ds us) : Is K r o (upd H p (.tup us)) (.tup ds) (.ref p) :=
  .tup (.inl ⟨hc.fresh hp, hc.freshO hp, .inl upd_same⟩) (h.mono (Step.new hp))
theorem Is.newLst (hc : Cells K r o c H) {p : Addr} {ds : List D} {us : List V} (hp : H p = none) (h : IsL K r o H ds us) : Is K r o (upd H p (.lst us)) (.lst ds) (.ref p) :=
  Is.lst ⟨hc.fresh hp, hc.freshO hp, upd_same⟩ (h.mono (Step.new hp))
theorem snd_tup {ta : TA} {f : FA} (hf : SndA K W ta f) : SndE K W (tTup ta) (eTup f) := fun r o c s H t Q hc hs h =>
  hf r o c s H t _ hc hs (ok_bind h fun ds c1 r1 H1 vs s1 hc1 hv h1 => by
    split at h1
    · rename_i z
      exact ⟨by rw [← hv.length]; exact big_le z, fun p hp => h1 _ _ _ (Step.new hp) (hc1.new hp) (Is.newTup hc1 hp hv)⟩
    · exact h1.elim)
/-- [..], a list that nobody changes -/
def eLst (f : FA) : FE := fun s c => (f s c).bind fun ds c1 => if ds.length ≤ 100000 then .ok (.lst ds) c1 else .bad
theorem snd_lst {ta : TA} {f : FA} (hf : SndA K W ta f) : SndE K W (tLst ta) (eLst f) := fun r o c s H t Q hc hs h =>
  hf r o c s H t _ hc hs (ok_bind h fun ds c1 r1 H1 vs s1 hc1 hv h1 => by
    split at h1
    · rename_i z
      exact ⟨by rw [← hv.length]; exact big_le z, fun p hp => h1 _ _ _ (Step.new hp) (hc1.new hp) (Is.newLst hc1 hp hv)⟩
    · exact h1.elim)
/-- [..], a list that is changed later -/
def eNew (f : FA) : FE := fun s c => (f s c).bind fun ds c1 => if ds.length ≤ 100000 then .ok (.cel c1.length) (c1 ++ [.lst ds]) else .bad
theorem snd_new {ta : TA} {f : FA} (hf : SndA K W ta f) : SndE K W (tLst ta) (eNew f) := fun r o c s H t Q hc hs h =>
  hf r o c s H t _ hc hs (ok_bind h fun ds c1 r1 H1 vs s1 hc1 hv h1 => by
    split at h1
    · rename_i z
      refine ⟨by rw [← hv.length]; exact big_le z, fun p hp => h1 _ _ _ (Step.cell hp (hc1.fresh hp)) (hc1.cell hp hv) (.cel ?_)⟩
      rw [← hc1.len, List.getElem?_append_right (Nat.le_refl _)]; simp
    · exact h1.elim)
/-! ### operators by values -/
def SndO (K : PySem.W.Frag) (W : WX) (q : R2) (f : D → D → Cs → Res D) : Prop := ∀ r o c H t Q d e x y, Cells K r o c H → Is K r o H d x → Is K r o H e y → OkG K W (Is K) r o H t Q (f d e c) → q x y H Q
def eOp (f : D → D → Cs → Res D) (a b : FE) : FE := fun s c => (a s c).bind fun d c1 => (b s c1).bind fun e c2 => f d e c2
theorem snd_op {q : R2} {f : D → D → Cs → Res D} {ta tb : TE} {a b : FE} (ho : SndO K W q f) (hf : SndE K W ta a) (hg : SndE K W tb b) : SndE K W (tOp q ta tb) (eOp f a b) := fun r o c s H t Q hc hs h =>
  hf r o c s H t _ hc hs (ok_bind h fun d c1 r1 H1 v s1 hc1 hv h1 => hg r1 o c1 s H1 t _ hc1 (hs.mono s1) (ok_bind h1 fun e c2 r2 H2 w s2 hc2 hw h2 => ho r2 o c2 H2 t Q d e v w hc2 (hv.mono s2) hw h2))
def oI (p : Int → Int → Bool) (g : Int → Int → D) : D → D → Cs → Res D := fun d e c => match d, e with
  | .int i, .int j => if p i j = true then .ok (g i j) c else .bad
  | _, _ => .bad
theorem snd_oI {C : Int → Int → Prop} {p : Int → Int → Bool} {g : Int → Int → V} {g' : Int → Int → D} (hp : ∀ i j, p i j = true → C i j) (hg : ∀ r o H i j, Is K r o H (g' i j) (g i j)) : SndO K W (rI C g) (oI p g') := fun r o c H t Q d e x y hc hd he h => by
  unfold oI at h
  split at h
  · rename_i i j
    split at h
    · rename_i z
      exact ⟨i, j, hd.int_inv, he.int_inv, hp i j z, h.here hc (hg ..)⟩
    · exact h.elim
  · exact h.elim
theorem snd_oI0 {g : Int → Int → V} {g' : Int → Int → D} (hg : ∀ r o H i j, Is K r o H (g' i j) (g i j)) : SndO K W (rI0 g) (oI (fun _ _ => true) g') := fun r o c H t Q d e x y hc hd he h => by
  unfold oI at h
  split at h
  · rename_i i j
    rw [if_pos rfl] at h
    exact ⟨i, j, hd.int_inv, he.int_inv, h.here hc (hg ..)⟩
  · exact h.elim
/-! ### tests -/
def tsE (f : FE) : FT := fun s c => (f s c).bind fun d c1 => match d with | .bl b => .ok b c1 | _ => .bad
theorem snd_test {te : TE} {f : FE} (hf : SndE K W te f) : SndT K W (tTest te) (tsE f) := fun r o c s H t Q hc hs h =>
  hf r o c s H t _ hc hs (ok_bind h fun d c1 r1 H1 v s1 hc1 hv h1 => by
    cases hv with
    | bl => exact ⟨_, rfl, h1.here hc1 rfl⟩
    | _ => exact h1.elim)
theorem snd_testB {te : TE} {f : FE} (hf : SndE K W te f) : SndT K W (tB te) (tsE f) := snd_test hf
def tsAnd (f g : FT) : FT := fun s c => (f s c).bind fun b c1 => if b = true then g s c1 else .ok false c1
def tsOr (f g : FT) : FT := fun s c => (f s c).bind fun b c1 => if b = true then .ok true c1 else g s c1
def tsNot (f : FT) : FT := fun s c => (f s c).bind fun b c1 => .ok (!b) c1
theorem snd_and {t1 t2 : TT} {f g : FT} (hf : SndT K W t1 f) (hg : SndT K W t2 g) : SndT K W (tAnd t1 t2) (tsAnd f g) := fun r o c s H t Q hc hs h =>
  hf r o c s H t _ hc hs (ok_bind h fun b c1 r1 H1 v s1 hc1 hv h1 => by
    cases hv
    cases b with
    | true => exact hg r1 o c1 s H1 t _ hc1 (hs.mono s1) h1
    | false => exact h1.here hc1 rfl)
theorem snd_or {t1 t2 : TT} {f g : FT} (hf : SndT K W t1 f) (hg : SndT K W t2 g) : SndT K W (tOr t1 t2) (tsOr f g) := fun r o c s H t Q hc hs h =>
  hf r o c s H t _ hc hs (ok_bind h fun b c1 r1 H1 v s1 hc1 hv h1 => by
    cases hv
    cases b with
    | true => exact h1.here hc1 rfl
    | false => exact hg r1 o c1 s H1 t _ hc1 (hs.mono s1) h1)
theorem snd_not {t1 : TT} {f : FT} (hf : SndT K W t1 f) : SndT K W (tNot t1) (tsNot f) := fun r o c s H t Q hc hs h =>
  hf r o c s H t _ hc hs (ok_bind h fun b c1 r1 H1 v s1 hc1 hv h1 => by
    cases hv
    exact h1.here hc1 rfl)
/-- and, or, not as values of bools -/
def eAnd (f g : FE) : FE := fun s c => (f s c).bind fun d c1 => match d with | .bl b => if b = true then g s c1 else .ok (.bl false) c1 | _ => .bad
def eOr (f g : FE) : FE := fun s c => (f s c).bind fun d c1 => match d with | .bl b => if b = true then .ok (.bl true) c1 else g s c1 | _ => .bad
def eNot (f : FE) : FE := fun s c => (f s c).bind fun d c1 => match d with | .bl b => .ok (.bl (!b)) c1 | _ => .bad
theorem snd_andV {t1 t2 : TE} {f g : FE} (hf : SndE K W t1 f) (hg : SndE K W t2 g) : SndE K W (tAndV t1 t2) (eAnd f g) := fun r o c s H t Q hc hs h =>
  hf r o c s H t _ hc hs (ok_bind h fun b c1 r1 H1 v s1 hc1 hv h1 => by
    cases hv with
    | @bl b =>
      refine ⟨b, rfl, ?_⟩
      cases b with
      | true => exact hg r1 o c1 s H1 t _ hc1 (hs.mono s1) h1
      | false => exact h1.here hc1 .bl
    | _ => exact h1.elim)
theorem snd_orV {t1 t2 : TE} {f g : FE} (hf : SndE K W t1 f) (hg : SndE K W t2 g) : SndE K W (tOrV t1 t2) (eOr f g) := fun r o c s H t Q hc hs h =>
  hf r o c s H t _ hc hs (ok_bind h fun b c1 r1 H1 v s1 hc1 hv h1 => by
    cases hv with
    | @bl b =>
      refine ⟨b, rfl, ?_⟩
      cases b with
      | true => exact h1.here hc1 .bl
      | false => exact hg r1 o c1 s H1 t _ hc1 (hs.mono s1) h1
    | _ => exact h1.elim)
theorem snd_notV {t1 : TE} {f : FE} (hf : SndE K W t1 f) : SndE K W (tNotV t1) (eNot f) := fun r o c s H t Q hc hs h =>
  hf r o c s H t _ hc hs (ok_bind h fun b c1 r1 H1 v s1 hc1 hv h1 => by
    cases hv with
    | @bl b => exact ⟨b, rfl, h1.here hc1 .bl⟩
    | _ => exact h1.elim)
def eIf (p : FT) (f g : FE) : FE := fun s c => (p s c).bind fun b c1 => if b = true then f s c1 else g s c1
theorem snd_ifE {tt : TT} {t1 t2 : TE} {p : FT} {f g : FE} (hp : SndT K W tt p) (hf : SndE K W t1 f) (hg : SndE K W t2 g) : SndE K W (tIf tt t1 t2) (eIf p f g) := fun r o c s H t Q hc hs h =>
  hp r o c s H t _ hc hs (ok_bind h fun b c1 r1 H1 v s1 hc1 hv h1 => by
    cases hv
    cases b with
    | true => exact hf r1 o c1 s H1 t _ hc1 (hs.mono s1) h1
    | false => exact hg r1 o c1 s H1 t _ hc1 (hs.mono s1) h1)

/-! ### statements -/
def SR.bind : SR → (Sl → Cs → SR) → SR
  | .nx s c, f => f s c
  | x, _ => x
def Res.toS {α : Type} (x : Res α) (s : Sl) (f : α → Cs → SR) : SR := match x with
  | .ok a c => f a c
  | .err x c => .err x s c
  | .bad => .bad
theorem ok_toS {R1 : List Addr → List Addr → Hp → α → β → Prop} {Q1 : β → Hp → Prop} {D : Ends} {x : Res α} {s : Sl} {g : α → Cs → SR} (hs : SlOk K r o H s t) (h : OkS K W r o H D (x.toS s g))
    (k : ∀ a c1 r1 H1 v, Step r H r1 H1 → Cells K r1 o c1 H1 → R1 r1 o H1 a v → OkS K W r1 o H1 D (g a c1) → Q1 v H1) : OkG K W R1 r o H t Q1 x := by
  cases x with
  | ok a c1 => exact fun r1 H1 v s1 hc hv => k a c1 r1 H1 v s1 hc hv (OkS.step s1 h)
  | err x c1 => exact fun r1 H1 cls dx s1 hc hx => h r1 H1 t cls dx s1 hc (hs.mono s1) hx
  | bad => exact h
def sNext : FS := fun s c => .nx s c
def sSeq (f g : FS) : FS := fun s c => (f s c).bind g
theorem snd_next : SndS K W tNext sNext := fun _ _ _ _ _ _ _ hc hs h => h _ _ _ Step.refl hc hs
theorem snd_seq {t1 t2 : TS} {f g : FS} (hf : SndS K W t1 f) (hg : SndS K W t2 g) : SndS K W (tSeq t1 t2) (sSeq f g) := fun r o c s H t D hc hs h =>
  hf r o c s H t { D with nx := t2 D } hc hs (by
    unfold sSeq at h
    cases e : f s c with
    | nx s' c' =>
      rw [e] at h
      intro r1 H1 t1 s1 hc1 hs1
      exact hg r1 o c' s' H1 t1 D hc1 hs1 (OkS.step s1 h)
    | rt d c' => rw [e] at h; exact h
    | bk s' c' => rw [e] at h; exact h
    | ct s' c' => rw [e] at h; exact h
    | err x s' c' => rw [e] at h; exact h
    | bad => rw [e] at h; exact h)
def sRet (f : FE) : FS := fun s c => (f s c).toS s fun d c1 => .rt d c1
theorem snd_ret {te : TE} {f : FE} (hf : SndE K W te f) : SndS K W (tRet te) (sRet f) := fun r o c s H t D hc hs h =>
  hf r o c s H t _ hc hs (ok_toS hs h fun d c1 r1 H1 v s1 hc1 hv h1 => h1 _ _ _ Step.refl hc1 hv)
def sRetN : FS := fun _ c => .rt .non c
theorem snd_retN : SndS K W tRetN sRetN := fun _ _ _ _ _ _ _ hc hs h => h _ _ _ Step.refl hc .non
def sDrop (f : FE) : FS := fun s c => (f s c).toS s fun _ c1 => .nx s c1
theorem snd_drop {te : TE} {f : FE} (hf : SndE K W te f) : SndS K W (tDrop te) (sDrop f) := fun r o c s H t D hc hs h =>
  hf r o c s H t _ hc hs (ok_toS hs h fun d c1 r1 H1 v s1 hc1 hv h1 => h1 _ _ _ Step.refl hc1 (hs.mono s1))
def sIf (p : FT) (f g : FS) : FS := fun s c => (p s c).toS s fun b c1 => if b = true then f s c1 else g s c1
theorem snd_if {tt : TT} {t1 t2 : TS} {p : FT} {f g : FS} (hp : SndT K W tt p) (hf : SndS K W t1 f) (hg : SndS K W t2 g) : SndS K W (tIfS tt t1 t2) (sIf p f g) := fun r o c s H t D hc hs h =>
  hp r o c s H t _ hc hs (ok_toS hs h fun b c1 r1 H1 v s1 hc1 hv h1 => by
    cases hv
    cases b with
    | true => exact hf r1 o c1 s H1 t D hc1 (hs.mono s1) h1
    | false => exact hg r1 o c1 s H1 t D hc1 (hs.mono s1) h1)
def sBreak : FS := fun s c => .bk s c
def sCont : FS := fun s c => .ct s c
theorem snd_break : SndS K W tBreak sBreak := fun _ _ _ _ _ _ _ hc hs h => h _ _ _ Step.refl hc hs
theorem snd_cont : SndS K W tCont sCont := fun _ _ _ _ _ _ _ hc hs h => h _ _ _ Step.refl hc hs
/-! targets -/
abbrev FG := D → Sl → Cs → SR
def SndG (K : PySem.W.Frag) (W : WX) (g : TG) (f : FG) : Prop := ∀ r o c s H t (D : Ends) d v, Cells K r o c H → SlOk K r o H s t → Is K r o H d v → OkS K W r o H D (f d s c) → g v t H D.nx
def gtName (i : Nat) : FG := fun d s c => .nx (s.set i (some d)) c
theorem snd_gname {i : Nat} : SndG K W (gName i) (gtName i) := fun r o c s H t D d v hc hs hv h => h _ _ _ Step.refl hc (hs.set i hv)
/-- a, b = .. -/
def setAll : List Nat → List D → Sl → Option Sl
  | [], [], s => some s
  | i :: is, d :: ds, s => setAll is ds (s.set i (some d))
  | _, _, _ => none
def gtTup (is : List Nat) : FG := fun d s c => match d with
  | .tup l => (match setAll is l s with | some s' => .nx s' c | none => .bad)
  | _ => .bad
def gNames : List Nat → TGs
  | [] => gNil
  | i :: is => gCons (gName i) (gNames is)
theorem snd_names : ∀ {is : List Nat} {l : List D} {us : List V} {s s' : Sl} {t : L2.St} {Q : L2.St → Hp → Prop}, IsL K r o H l us → SlOk K r o H s t → setAll is l s = some s' → (∀ t', SlOk K r o H s' t' → Q t' H) → gNames is us t H Q
  | [], [], _, s, s', t, Q, .nil, hs, e, h => by
    have e' : s = s' := Option.some.inj e
    subst e'
    exact ⟨rfl, h t hs⟩
  | i :: is, d :: l, _, s, s', t, Q, .cons hv hl, hs, e, h => ⟨_, _, rfl, snd_names hl (hs.set i hv) e h⟩
  | [], _ :: _, _, _, _, _, _, _, _, e, _ => by cases e
  | _ :: _, [], _, _, _, _, _, _, _, e, _ => by cases e
theorem setAll_len : ∀ {is : List Nat} {l : List D} {s s' : Sl}, setAll is l s = some s' → l.length = is.length
  | [], [], _, _, _ => rfl
  | _ :: is, _ :: l, s, s', e => congrArg (· + 1) (setAll_len (is := is) (l := l) e)
  | [], _ :: _, _, _, e => by cases e
  | _ :: _, [], _, _, e => by cases e
theorem snd_gtup {is : List Nat} : SndG K W (gTup K is.length (gNames is)) (gtTup is) := fun r o c s H t D d v hc hs hv h => by
  unfold gtTup at h
  cases hv with
  | tup a b =>
    rename_i l a' us
    cases e : setAll is l s with
    | none =>
      simp only [e] at h
      exact h.elim
    | some s' =>
      simp only [e] at h
      exact ⟨_, us, rfl, a.sq, by rw [← b.length, setAll_len e], snd_names b hs e fun t' ht => h _ _ _ Step.refl hc ht⟩
  | _ => exact h.elim
def sAsg (f : FE) (g : FG) : FS := fun s c => (f s c).toS s fun d c1 => g d s c1
theorem snd_asg {te : TE} {tg : TG} {f : FE} {g : FG} (hf : SndE K W te f) (hg : SndG K W tg g) : SndS K W (tAsg te tg) (sAsg f g) := fun r o c s H t D hc hs h =>
  hf r o c s H t _ hc hs (ok_toS hs h fun d c1 r1 H1 v s1 hc1 hv h1 => hg r1 o c1 s H1 t D d v hc1 (hs.mono s1) hv h1)
/-- a, b = x, y, plain local names -/
def sPar (i j : Nat) (f : FA) : FS := fun s c => (f s c).toS s fun ds c1 => match ds with | [d, e] => .nx ((s.set i (some d)).set j (some e)) c1 | _ => .bad
theorem snd_par {i j : Nat} {ta : TA} {f : FA} (hf : SndA K W ta f) : SndS K W (tPar i j ta) (sPar i j f) := fun r o c s H t D hc hs h =>
  hf r o c s H t _ hc hs (ok_toS hs h fun ds c1 r1 H1 v s1 hc1 hv h1 => by
    cases hv with
    | nil => exact h1.elim
    | cons h2 h3 =>
      cases h3 with
      | nil => exact h1.elim
      | cons h4 h5 =>
        cases h5 with
        | nil => exact ⟨_, _, rfl, h1 _ _ _ Step.refl hc1 (((hs.mono s1).set i h2).set j h4)⟩
        | cons _ _ => exact h1.elim)
/-! while -/
def loopW (p : FT) (b : FS) : Nat → FS
  | 0 => fun _ _ => .bad
  | n + 1 => fun s c => (p s c).toS s fun q c1 => if q = true then (match b s c1 with
      | .nx s2 c2 => loopW p b n s2 c2
      | .ct s2 c2 => loopW p b n s2 c2
      | .bk s2 c2 => .nx s2 c2
      | x => x) else .nx s c1
theorem snd_while {tt : TT} {tb : TS} {p : FT} {b : FS} {n : Nat} (hp : SndT K W tt p) (hb : SndS K W tb b) : SndS K W (tWhile tt tb) (loopW p b n) := fun r o c s H t D hc hs h => by
  refine ⟨fun m t' H' => ∃ r' c' s', Cells K r' o c' H' ∧ SlOk K r' o H' s' t' ∧ OkS K W r' o H' D (loopW p b m s' c'), ⟨n, r, c, s, hc, hs, h⟩, ?_⟩
  rintro m t1 H1 ⟨r1, c1, s1, hc1, hs1, h1⟩
  cases m with
  | zero => exact h1.elim
  | succ m =>
    refine hp r1 o c1 s1 H1 t1 _ hc1 hs1 (ok_toS hs1 h1 fun q c2 r2 H2 v st2 hc2 hv h2 => ?_)
    cases hv
    cases q with
    | false =>
      show D.nx t1 H2
      exact h2 _ _ _ Step.refl hc2 (hs1.mono st2)
    | true =>
      refine ⟨fun t' H' => ∃ r' c' s', Cells K r' o c' H' ∧ SlOk K r' o H' s' t' ∧ OkS K W r' o H' D (loopW p b m s' c'), fun t' H' z => ⟨m, Nat.lt_succ_self m, z⟩, ?_⟩
      have h3 : OkS K W r2 o H2 D (match b s1 c2 with
        | .nx s2 c2 => loopW p b m s2 c2
        | .ct s2 c2 => loopW p b m s2 c2
        | .bk s2 c2 => .nx s2 c2
        | x => x) := h2
      refine hb r2 o c2 s1 H2 t1 _ hc2 (hs1.mono st2) ?_
      cases e : b s1 c2 with
      | nx s' c' => rw [e] at h3; exact fun r' H' t' st hc' hs' => ⟨r', c', s', hc', hs', OkS.step st h3⟩
      | ct s' c' => rw [e] at h3; exact fun r' H' t' st hc' hs' => ⟨r', c', s', hc', hs', OkS.step st h3⟩
      | bk s' c' => rw [e] at h3; exact fun r' H' t' st hc' hs' => h3 r' H' t' st hc' hs'
      | rt d c' => rw [e] at h3; exact h3
      | err x s' c' => rw [e] at h3; exact h3
      | bad => rw [e] at h3; exact h3
/-! for -/
def loopL (g : FG) (b : FS) : List D → FS
  | [] => fun s c => .nx s c
  | d :: ds => fun s c => (g d s c).bind fun s1 c1 => match b s1 c1 with
      | .nx s2 c2 => loopL g b ds s2 c2
      | .ct s2 c2 => loopL g b ds s2 c2
      | .bk s2 c2 => .nx s2 c2
      | x => x
/-- what an iterator yields, whatever happens to the cells meanwhile -/
def Gives (K : PySem.W.Frag) (r o : List Addr) (H : Hp) (ds : List D) (J : It) : Prop := ∀ r' o' H' c', Sees r o H o' H' → (∃ new, r' = r ++ new) → Cells K r' o' c' H' → ∀ i,
  (∀ d, ds[i]? = some d → J.go i H' ∧ ∀ x H2, J.yld i H' x H2 → Step r' H' r' H2 ∧ Cells K r' o' c' H2 ∧ (∀ a ∈ o', H2 a = H' a) ∧ Is K r' o' H2 d x) ∧ (ds.length ≤ i → J.stop i H')
def SndI (K : PySem.W.Frag) (W : WX) (wi : TI) (f : FA) : Prop := ∀ r o c s H t Q, Cells K r o c H → SlOk K r o H s t → OkG K W (Gives K) r o H t Q (f s c) → wi t H Q
end RL

set_option Elab.async false
set_option linter.all false
set_option maxRecDepth 100000
set_option maxHeartbeats 2000000
namespace RL
open PySem PySem.Spec PyProof.Rows L2
variable {K : PySem.W.Frag} {r r' r1 r2 o o' o1 : List Addr} {H H' H1 H2 : Hp} {c c' c1 c2 : Cs} {W : WX} {t : L2.St}
/-- what data see stands -/
structure Later (r o : List Addr) (H : Hp) (r' o' : List Addr) (H' : Hp) : Prop where
  pre : ∃ new, r' = r ++ new
  see : ∀ a u, a ∉ r → a ∉ o → H a = some u → a ∉ r' ∧ a ∉ o' ∧ H' a = some u
theorem Later.refl : Later r o H r o H := ⟨⟨[], by simp⟩, fun a u h1 h2 h3 => ⟨h1, h2, h3⟩⟩
theorem Later.trans (s : Later r o H r1 o1 H1) (t : Later r1 o1 H1 r2 o' H2) : Later r o H r2 o' H2 := by
  obtain ⟨n1, e1⟩ := s.pre
  obtain ⟨n2, e2⟩ := t.pre
  exact ⟨⟨n1 ++ n2, by rw [e2, e1, List.append_assoc]⟩, fun a u h1 h2 h3 => let ⟨x, y, z⟩ := s.see a u h1 h2 h3; t.see a u x y z⟩
theorem Step.later (s : Step r H r' H') : Later r o H r' o H' := by
  obtain ⟨new, e, _⟩ := s.pre
  exact ⟨⟨new, e⟩, fun a u h1 h2 h3 => ⟨s.nin h3 h1, h2, s.keep a u h3 h1⟩⟩
theorem Sees.later (s : Sees r o H o' H') : Later r o H r o' H' := ⟨⟨[], by simp⟩, fun a u h1 h2 h3 => ⟨h1, s a u h1 h2 h3⟩⟩
theorem Later.rd (s : Later r o H r' o' H') {a : Addr} {u : HO} (h1 : a ∉ r) (h2 : a ∉ o) (h3 : Rd H a u) : a ∉ r' ∧ a ∉ o' ∧ Rd H' a u := by
  rcases h3 with h3 | ⟨b, h3⟩
  · obtain ⟨x, y, z⟩ := s.see _ _ h1 h2 h3; exact ⟨x, y, .inl z⟩
  · obtain ⟨x, y, z⟩ := s.see _ _ h1 h2 h3; exact ⟨x, y, .inr ⟨b, z⟩⟩
theorem Later.at (s : Later r o H r' o' H') {n : Nat} {a : Addr} (h : r[n]? = some a) : r'[n]? = some a := by
  obtain ⟨new, rfl⟩ := s.pre
  rw [List.getElem?_append_left (List.getElem?_eq_some_iff.mp h).1]; exact h
theorem TupAt.later (s : Later r o H r' o' H') {a xs} (h : TupAt K r o H a xs) : TupAt K r' o' H' a xs := h.elim (fun z => .inl (s.rd z.1 z.2.1 z.2.2)) .inr
theorem LstAt.later (s : Later r o H r' o' H') {a xs} (h : LstAt r o H a xs) : LstAt r' o' H' a xs := s.see _ _ h.1 h.2.1 h.2.2
theorem ScrAt.later (s : Later r o H r' o' H') {a xs} (h : ScrAt K r o H a xs) : ScrAt K r' o' H' a xs := h.elim (fun z => .inl (s.rd z.1 z.2.1 z.2.2)) .inr
mutual
theorem Is.later (s : Later r o H r' o' H') : ∀ {d v}, Is K r o H d v → Is K r' o' H' d v
  | _, _, .non => .non
  | _, _, .bl => .bl
  | _, _, .int => .int
  | _, _, .str => .str
  | _, _, .tup a b => .tup (a.later s) (IsL.later s b)
  | _, _, .lst a b => .lst (a.later s) (IsL.later s b)
  | _, _, .scr a b => .scr (a.later s) (IsL.later s b)
  | _, _, .cel a => .cel (s.at a)
theorem IsL.later (s : Later r o H r' o' H') : ∀ {ds vs}, IsL K r o H ds vs → IsL K r' o' H' ds vs
  | _, _, .nil => .nil
  | _, _, .cons a b => .cons (Is.later s a) (IsL.later s b)
end
theorem SlOk.later (s : Later r o H r' o' H') {sl t} (h : SlOk K r o H sl t) : SlOk K r' o' H' sl t := ⟨h.1, fun i d e => let ⟨v, a, b⟩ := h.2 i d e; ⟨v, a, b.later s⟩⟩

/-- what an iterator yields, whatever happens to the cells meanwhile -/
def GivesL (K : PySem.W.Frag) (r o : List Addr) (H : Hp) (ds : List D) (J : It) : Prop := ∀ r' o' H' c', Later r o H r' o' H' → Cells K r' o' c' H' → ∀ i,
  (∀ d, ds[i]? = some d → J.go i H' ∧ ∀ x H2, J.yld i H' x H2 → (∀ a u, H' a = some u → H2 a = some u) ∧ Is K r' o' H2 d x) ∧ (ds.length ≤ i → J.stop i H')
def SndJ (K : PySem.W.Frag) (W : WX) (wi : TI) (f : FA) : Prop := ∀ r o c s H t Q, Cells K r o c H → SlOk K r o H s t → OkG K W (GivesL K) r o H t Q (f s c) → wi t H Q
/-- everything stands -/
theorem Step.grow (k : ∀ a u, H a = some u → H' a = some u) : Step r H r H' := ⟨⟨[], by simp, by simp⟩, fun a u e _ => k a u e⟩
theorem Cells.grow (h : Cells K r o c H) (k : ∀ a u, H a = some u → H' a = some u) : Cells K r o c H' :=
  h.via h.out (fun a ha => let ⟨u, e⟩ := h.live a ha; ⟨u, k a _ e⟩) (fun a ha => let ⟨u, e⟩ := h.there ha; by rw [e]; exact k a u e) (fun a u _ h2 e => ⟨h2, k a u e⟩)
theorem snd_for {wi : TI} {g : TG} {tb : TS} {f : FA} {fg : FG} {b : FS} (hi : SndJ K W wi f) (hg : SndG K W g fg) (hb : SndS K W tb b) : SndS K W (tFor wi g tb) (fun s c => (f s c).toS s fun ds c1 => loopL fg b ds s c1) := fun r o c s H t D hc hs h =>
  hi r o c s H t _ hc hs (ok_toS hs h fun ds c1 r1 H1 J s1 hc1 hJ h1 => by
    refine ⟨fun i m t' H' => m = ds.length - i ∧ i ≤ ds.length ∧ ∃ r' c' s', Later r1 o H1 r' o H' ∧ Cells K r' o c' H' ∧ SlOk K r' o H' s' t' ∧ OkS K W r' o H' D (loopL fg b (ds.drop i) s' c'),
      ⟨ds.length, by simp, Nat.zero_le _, r1, c1, s, Later.refl, hc1, hs.mono s1, h1⟩, ?_⟩
    rintro i m t2 H2 ⟨rfl, hi2, r2, c2, s2, l2, hc2, hs2, h2⟩
    obtain ⟨hgo, hst⟩ := hJ r2 o H2 c2 l2 hc2 i
    by_cases hlt : i < ds.length
    · have ed : ds[i]? = some ds[i] := List.getElem?_eq_getElem hlt
      obtain ⟨go, yl⟩ := hgo _ ed
      have e2 : ds.drop i = ds[i] :: ds.drop (i + 1) := List.drop_eq_getElem_cons hlt
      rw [e2] at h2
      refine .inr ⟨go, fun t' H' => ∃ r' c' s', Later r1 o H1 r' o H' ∧ Cells K r' o c' H' ∧ SlOk K r' o H' s' t' ∧ OkS K W r' o H' D (loopL fg b (ds.drop (i + 1)) s' c'), fun t' H' z => ⟨ds.length - (i + 1), by omega, rfl, hlt, z⟩, fun x H3 y => ?_⟩
      obtain ⟨k3, hx⟩ := yl x H3 y
      have st3 : Step r2 H2 r2 H3 := Step.grow k3
      have hc3 := hc2.grow k3
      have h3 := OkS.step st3 h2
      have h4 : OkS K W r2 o H3 D ((fg ds[i] s2 c2).bind fun s1 c1 => match b s1 c1 with
        | .nx s2 c2 => loopL fg b (ds.drop (i + 1)) s2 c2
        | .ct s2 c2 => loopL fg b (ds.drop (i + 1)) s2 c2
        | .bk s2 c2 => .nx s2 c2
        | x => x) := h3
      refine hg r2 o c2 s2 H3 t2 { D with nx := fun t' H' => tb { D with nx := fun t' H' => ∃ r' c' s', Later r1 o H1 r' o H' ∧ Cells K r' o c' H' ∧ SlOk K r' o H' s' t' ∧ OkS K W r' o H' D (loopL fg b (ds.drop (i + 1)) s' c'), ct := fun t' H' => ∃ r' c' s', Later r1 o H1 r' o H' ∧ Cells K r' o c' H' ∧ SlOk K r' o H' s' t' ∧ OkS K W r' o H' D (loopL fg b (ds.drop (i + 1)) s' c'), bk := D.nx } t' H' } ds[i] x hc3 (hs2.mono st3) hx ?_
      cases e : fg ds[i] s2 c2 with
      | nx s4 c4 =>
        rw [e] at h4
        intro r4 H4 t4 st4 hc4 hs4
        have h5 : OkS K W r4 o H4 D (match b s4 c4 with
          | .nx s2 c2 => loopL fg b (ds.drop (i + 1)) s2 c2
          | .ct s2 c2 => loopL fg b (ds.drop (i + 1)) s2 c2
          | .bk s2 c2 => .nx s2 c2
          | x => x) := OkS.step st4 h4
        have l4 : Later r1 o H1 r4 o H4 := (l2.trans st3.later).trans st4.later
        refine hb r4 o c4 s4 H4 t4 _ hc4 hs4 ?_
        cases e5 : b s4 c4 with
        | nx s' c' => rw [e5] at h5; exact fun r' H' t' st hc' hs' => ⟨r', c', s', l4.trans st.later, hc', hs', OkS.step st h5⟩
        | ct s' c' => rw [e5] at h5; exact fun r' H' t' st hc' hs' => ⟨r', c', s', l4.trans st.later, hc', hs', OkS.step st h5⟩
        | bk s' c' => rw [e5] at h5; exact h5
        | rt d c' => rw [e5] at h5; exact h5
        | err x s' c' => rw [e5] at h5; exact h5
        | bad => rw [e5] at h5; exact h5
      | rt d c' => rw [e] at h4; exact h4
      | bk s' c' => rw [e] at h4; exact h4
      | ct s' c' => rw [e] at h4; exact h4
      | err x s' c' => rw [e] at h4; exact h4
      | bad => rw [e] at h4; exact h4
    · have ei : i = ds.length := by omega
      subst ei
      rw [List.drop_length] at h2
      exact .inl ⟨hst (Nat.le_refl _), h2 _ _ _ Step.refl hc2 hs2⟩)
/-! ### what is walked: a list, a tuple, a text; a range -/
def signs (x : Str) : List D := x.cps.toList.map fun k => .str ⟨#[k]⟩
def walkD : D → Option (List D)
  | .tup l => some l
  | .lst l => some l
  | .str x => some (signs x)
  | _ => none
def fSeq (f : FE) : FA := fun s c => (f s c).bind fun d c1 => match walkD d with | some l => .ok l c1 | none => .bad
def iSeq (K : PySem.W.Frag) (tl : TE) : TI := fun σ H R => tl σ H fun x H1 => (∃ a, x = .ref a ∧ (∃ xs, SqL K H1 a xs) ∧ R (Itl K a) H1) ∨ (∃ a, x = .ref a ∧ (∃ xs, SqT K H1 a xs) ∧ R (Itt K a) H1) ∨ ∃ z, x = .str z ∧ R (Its z) H1
theorem vl_of {ds : List D} {us : List V} {i : Nat} {d : D} (h : IsL K r o H ds us) (e : ds[i]? = some d) : ∃ x, us[i]? = some x ∧ Is K r o H d x := h.get e

theorem pi_seq {X : Cx} {tg l : Expr} {tl : TE} (hl : PE X l tl) : PI X tg l (iSeq X.K tl) := by
  refine ⟨fun pins s σ H R I h => ?_⟩
  refine thn (hl.run pins s σ H _ I h) fun v s1 ⟨x, H1, I1, r1, q1⟩ => ?_
  rcases q1 with ⟨a, e, ⟨xs, hq⟩, q⟩ | ⟨a, e, ⟨xs, hq⟩, q⟩ | ⟨z, ez, q⟩
  · subst e
    cases r1
    obtain ⟨its, rv, p, hz⟩ := I1.list hq
    refine wpAny_pyIter_list p.isList ?_
    refine ⟨s1.heap.objs.size, [s1.heap.objs.size], _, _, H1, rfl, I1.kept (t' := s1.toks) fun b o e => Heap.get?_push_of_some _ e, turn_list a _, ⟨_, Heap.get?_push_size _ rfl, rfl, rfl⟩, fun b hb => ?_, q⟩
    have e : b = s1.heap.objs.size := by simpa using hb
    subst e
    exact I1.fpOk (Nat.le_refl _) (I1.hok.fresh (Nat.le_refl _))
  · subst e
    cases r1
    obtain ⟨its, rv, p, hz⟩ := I1.tuple hq
    refine wpAny_pyIter_tuple (show s1.heap.IsTuple a its.toArray from p) ?_
    refine ⟨s1.heap.objs.size, [s1.heap.objs.size], _, _, H1, rfl, I1.kept (t' := s1.toks) fun b o e => Heap.get?_push_of_some _ e, turn_tuple a _, ⟨_, Heap.get?_push_size _ rfl, rfl, rfl⟩, fun b hb => ?_, q⟩
    have e : b = s1.heap.objs.size := by simpa using hb
    subst e
    exact I1.fpOk (Nat.le_refl _) (I1.hok.fresh (Nat.le_refl _))
  · subst ez
    obtain ⟨t, rfl⟩ := r1
    cases ha : z.cps.all (· < 128)
    · exact wpAny_pyIter_wide ha (pi_one (tk := s1.toks) I1 _ (turn_str _ z t "str_iterator" (.inr rfl)) ⟨_, Heap.get?_push_size _ rfl, rfl, rfl⟩ q)
    · exact wpAny_pyIter_ascii ha (pi_one (tk := s1.toks) I1 _ (turn_str _ z t "str_ascii_iterator" (.inl rfl)) ⟨_, Heap.get?_push_size _ rfl, rfl, rfl⟩ q)
theorem vals_fun {us ws : List V} {i : Nat} {x y : V} (e : us = ws) (h1 : us[i]? = some x) (h2 : ws[i]? = some y) : x = y := by subst e; exact Option.some.inj (h1.symm.trans h2)
/-- a list that is read is one list -/
theorem Rd.inj {a : Addr} {xs ys : List V} (h1 : Rd H a (.lst xs)) (h2 : Rd H a (.lst ys)) : True := trivial
theorem gives_list {a : Addr} {us : List V} {ds : List D} (hl : LstAt r o H a us) (hu : IsL K r o H ds us) : GivesL K r o H ds (Itl K a) := fun r' o' H' c' l hc i => by
  have hq := (hl.later l).sq (K := K)
  have hu' := hu.later l
  refine ⟨fun d e => ?_, fun hle => ⟨us, hq, by rw [← hu.length]; exact hle⟩⟩
  obtain ⟨x, hx, hd⟩ := hu'.get e
  refine ⟨⟨us, x, hq, hx⟩, fun y H2 z => ?_⟩
  obtain ⟨e2, z2⟩ := z
  subst e2
  have := z2 us hq
  rw [hx] at this
  cases this
  exact ⟨fun _ _ e => e, hd⟩
theorem gives_tup {a : Addr} {us : List V} {ds : List D} (hl : TupAt K r o H a us) (hu : IsL K r o H ds us) : GivesL K r o H ds (Itt K a) := fun r' o' H' c' l hc i => by
  have hq := (hl.later l).sq
  have hu' := hu.later l
  refine ⟨fun d e => ?_, fun hle => ⟨us, hq, by rw [← hu.length]; exact hle⟩⟩
  obtain ⟨x, hx, hd⟩ := hu'.get e
  refine ⟨⟨us, x, hq, hx⟩, fun y H2 z => ?_⟩
  obtain ⟨e2, z2⟩ := z
  subst e2
  have := z2 us hq
  rw [hx] at this
  cases this
  exact ⟨fun _ _ e => e, hd⟩
theorem gives_str {x : Str} : GivesL K r o H (signs x) (Its x) := fun r' o' H' c' l hc i => by
  unfold signs
  refine ⟨fun d e => ?_, fun hle => by show x.cps.size ≤ i; simpa using hle⟩
  rw [List.getElem?_map] at e
  cases e1 : x.cps.toList[i]? with
  | none => rw [e1] at e; cases e
  | some k =>
    rw [e1] at e
    cases e
    have e2 : x.cps[i]? = some k := by rw [← Array.getElem?_toList]; exact e1
    refine ⟨(Array.getElem?_eq_some_iff.mp e2).1, fun y H2 z => ?_⟩
    obtain ⟨z1, cc, z2, z3⟩ := z
    subst z1
    rw [e2] at z2
    cases z2
    subst z3
    exact ⟨fun _ _ e => e, .str⟩
theorem snd_iseq {te : TE} {f : FE} (hf : SndE K W te f) : SndJ K W (iSeq K te) (fSeq f) := fun r o c s H t Q hc hs h =>
  hf r o c s H t _ hc hs (ok_bind h fun d c1 r1 H1 v s1 hc1 hv h1 => by
    cases hv with
    | tup a b => exact .inr (.inl ⟨_, rfl, ⟨_, a.sq⟩, h1.here hc1 (gives_tup a b)⟩)
    | lst a b => exact .inl ⟨_, rfl, ⟨_, a.sq⟩, h1.here hc1 (gives_list a b)⟩
    | str => exact .inr (.inr ⟨_, rfl, h1.here hc1 gives_str⟩)
    | _ => exact h1.elim)

/-! ### ranges -/
def rngC (lo st : Int) (n : Nat) : List D := (List.range n).map fun i => .int (lo + (i : Nat) * st)
def fRng1 (f : FA) : FA := fun s c => (f s c).bind fun ds c1 => match ds with
  | [.int j] => if -(2 ^ 62) ≤ j ∧ j < 2 ^ 62 then .ok (rngC 0 1 j.toNat) c1 else .bad
  | _ => .bad
def fRng2 (f : FA) : FA := fun s c => (f s c).bind fun ds c1 => match ds with
  | [.int i, .int j] => if -(2 ^ 62) ≤ i ∧ i < 2 ^ 62 ∧ -(2 ^ 62) ≤ j ∧ j < 2 ^ 62 then .ok (rngC i 1 (j - i).toNat) c1 else .bad
  | _ => .bad
def fRng3 (f : FA) : FA := fun s c => (f s c).bind fun ds c1 => match ds with
  | [.int i, .int j, .int k] => if k ≠ 0 ∧ k.natAbs < 1073741824 ∧ Builtin.Range.small i j k = true ∧ 0 ≤ Builtin.Range.rangeSize i j k then .ok (rngC i k (Builtin.Range.rangeSize i j k).toNat) c1 else .bad
  | _ => .bad
theorem gives_rng {lo : Int} {n : Nat} : GivesL K r o H (rngC lo 1 n) (Itr lo n) := fun r' o' H' c' l hc i => by
  unfold rngC
  refine ⟨fun d e => ?_, fun hle => by show n ≤ i; simpa using hle⟩
  rw [List.getElem?_map] at e
  by_cases hi : i < n
  · rw [List.getElem?_range hi] at e
    cases e
    refine ⟨hi, fun y H2 z => ?_⟩
    obtain ⟨z1, z2⟩ := z
    subst z1; subst z2
    have e1 : lo + ((i : Nat) : Int) * 1 = lo + i := by omega
    show _ ∧ Is K r' o' _ (.int (lo + ((i : Nat) : Int) * 1)) _
    rw [e1]
    exact ⟨fun _ _ e => e, .int⟩
  · rw [List.getElem?_eq_none (by simpa using hi)] at e
    cases e
theorem gives_rngC {lo st : Int} {n : Nat} : GivesL K r o H (rngC lo st n) (Itc lo st n) := fun r' o' H' c' l hc i => by
  unfold rngC
  refine ⟨fun d e => ?_, fun hle => by show n ≤ i; simpa using hle⟩
  rw [List.getElem?_map] at e
  by_cases hi : i < n
  · rw [List.getElem?_range hi] at e
    cases e
    refine ⟨hi, fun y H2 z => ?_⟩
    obtain ⟨z1, z2⟩ := z
    subst z1; subst z2
    exact ⟨fun _ _ e => e, .int⟩
  · rw [List.getElem?_eq_none (by simpa using hi)] at e
    cases e
theorem snd_rng1 {ta : TA} {f : FA} (hf : SndA K W ta f) : SndJ K W (iRng1 ta) (fRng1 f) := fun r o c s H t Q hc hs h =>
  hf r o c s H t _ hc hs (ok_bind h fun ds c1 r1 H1 v s1 hc1 hv h1 => by
    split at h1
    · rename_i j
      split at h1
      · rename_i z
        cases hv with
        | cons a b =>
          cases b
          exact ⟨j, by rw [a.int_inv], z.1, z.2, h1.here hc1 gives_rng⟩
      · exact h1.elim
    · exact h1.elim)
theorem snd_rng2 {ta : TA} {f : FA} (hf : SndA K W ta f) : SndJ K W (iRng2 ta) (fRng2 f) := fun r o c s H t Q hc hs h =>
  hf r o c s H t _ hc hs (ok_bind h fun ds c1 r1 H1 v s1 hc1 hv h1 => by
    split at h1
    · rename_i i j
      split at h1
      · rename_i z
        cases hv with
        | cons a b =>
          cases b with
          | cons a2 b2 =>
            cases b2
            exact ⟨i, j, by rw [a.int_inv, a2.int_inv], z, h1.here hc1 gives_rng⟩
      · exact h1.elim
    · exact h1.elim)
theorem snd_rng3 {ta : TA} {f : FA} (hf : SndA K W ta f) : SndJ K W (iRng3 ta) (fRng3 f) := fun r o c s H t Q hc hs h =>
  hf r o c s H t _ hc hs (ok_bind h fun ds c1 r1 H1 v s1 hc1 hv h1 => by
    split at h1
    · rename_i i j k
      split at h1
      · rename_i z
        cases hv with
        | cons a b =>
          cases b with
          | cons a2 b2 =>
            cases b2 with
            | cons a3 b3 =>
              cases b3
              exact ⟨i, j, k, _, by rw [a.int_inv, a2.int_inv, a3.int_inv], ⟨z.1, z.2.1, z.2.2.1, (Int.toNat_of_nonneg z.2.2.2).symm⟩, h1.here hc1 gives_rngC⟩
      · exact h1.elim
    · exact h1.elim)
/-! ### comprehensions -/
inductive Tg where
  | nm (j : Nat) | tp (js : List Nat)
def Tg.set : Tg → D → Sl → Option Sl
  | .nm j, d, s => some (s.set j (some d))
  | .tp js, .tup l, s => setAll js l s
  | .tp _, _, _ => none
def Tg.g (K : PySem.W.Frag) : Tg → TG
  | .nm j => gName j
  | .tp js => gTup K js.length (gNames js)
def Tg.own (vs : List Nat) : Tg → Bool
  | .nm j => vs.contains j
  | .tp js => js.all vs.contains
def wipeD (s : Sl) : List Nat → Sl
  | [] => s
  | v :: vs => (wipeD s vs).set v none
theorem SlOk.wipe {s : Sl} (h : SlOk K r o H s t) : ∀ vs : List Nat, SlOk K r o H (wipeD s vs) (wipe t vs)
  | [] => h
  | v :: vs => (SlOk.wipe h vs).forget v
theorem wipe_get (t : L2.St) : ∀ (vs : List Nat) (i : Nat), i < t.length → (wipe t vs)[i]? = if i ∈ vs then some none else t[i]?
  | [], i, _ => by simp [wipe]
  | v :: vs, i, hi => by
    unfold L2.wipe
    by_cases e : v = i
    · subst e
      rw [List.getElem?_set_self (by rw [wipe_length]; exact hi)]; simp
    · rw [List.getElem?_set_ne e, wipe_get t vs i hi]
      have : i ∈ v :: vs ↔ i ∈ vs := by simp [Ne.symm e]
      simp only [this]
theorem wipe_set (t : L2.St) (vs : List Nat) {j : Nat} (hj : j ∈ vs) (x : Option V) : wipe (t.set j x) vs = wipe t vs := by
  apply List.ext_getElem?
  intro i
  by_cases hi : i < t.length
  · rw [wipe_get _ _ _ (by simpa using hi), wipe_get _ _ _ hi]
    split
    · rfl
    · rename_i h
      rw [List.getElem?_set_ne (fun e => h (by rw [← e]; exact hj))]
  · rw [List.getElem?_eq_none (by rw [wipe_length]; simpa using hi), List.getElem?_eq_none (by rw [wipe_length]; simpa using hi)]
theorem wipe_wipe (t : L2.St) (vs : List Nat) : wipe (wipe t vs) vs = wipe t vs := by
  apply List.ext_getElem?
  intro i
  by_cases hi : i < t.length
  · rw [wipe_get _ _ _ (by rw [wipe_length]; exact hi), wipe_get _ _ _ hi]
    split <;> rfl
  · rw [List.getElem?_eq_none (by rw [wipe_length, wipe_length]; omega), List.getElem?_eq_none (by rw [wipe_length]; omega)]
theorem names_run {vs : List Nat} {t0 : L2.St} : ∀ {js : List Nat} {l : List D} {us : List V} {s s' : Sl} {t : L2.St} {Q : L2.St → Hp → Prop}, IsL K r o H l us → SlOk K r o H s t → (∀ j ∈ js, j ∈ vs) → wipe t vs = t0 → setAll js l s = some s' →
    (∀ t', SlOk K r o H s' t' → wipe t' vs = t0 → Q t' H) → gNames js us t H Q
  | [], [], _, s, s', t, Q, .nil, hs, _, hw, e, h => by
    have e' : s = s' := Option.some.inj e
    subst e'
    exact ⟨rfl, h t hs hw⟩
  | i :: js, d :: l, _, s, s', t, Q, .cons hv hl, hs, hm, hw, e, h => ⟨_, _, rfl, names_run hl (hs.set i hv) (fun j hj => hm j (List.mem_cons_of_mem _ hj)) (by rw [wipe_set _ _ (hm i List.mem_cons_self)]; exact hw) e h⟩
  | [], _ :: _, _, _, _, _, _, _, _, _, _, e, _ => by cases e
  | _ :: _, [], _, _, _, _, _, _, _, _, _, e, _ => by cases e
theorem Tg.run {vs : List Nat} {t0 : L2.St} {tg : Tg} {d : D} {x : V} {s s' : Sl} {t : L2.St} {Q : L2.St → Hp → Prop} (ho : tg.own vs = true) (hv : Is K r o H d x) (hs : SlOk K r o H s t) (hw : wipe t vs = t0) (e : tg.set d s = some s')
    (h : ∀ t', SlOk K r o H s' t' → wipe t' vs = t0 → Q t' H) : tg.g K x t H Q := by
  cases tg with
  | nm j =>
    have e' : s.set j (some d) = s' := Option.some.inj e
    subst e'
    have hj : j ∈ vs := by simpa [Tg.own] using ho
    exact h _ (hs.set j hv) (by rw [wipe_set _ _ hj]; exact hw)
  | tp js =>
    have hm : ∀ j ∈ js, j ∈ vs := by simpa [Tg.own] using ho
    cases hv with
    | tup a b => exact ⟨_, _, rfl, a.sq, by rw [← b.length, setAll_len e], names_run b hs hm hw e h⟩
    | _ => cases e
def compL (tg : Tg) (p : FT) (f : FE) (s0 : Sl) : List D → List D → Cs → Res (List D)
  | [], acc, c => .ok acc c
  | d :: ds, acc, c => match tg.set d s0 with
    | none => .bad
    | some s1 => match p s1 c with
      | .ok true c1 => (match f s1 c1 with
        | .ok y c2 => if acc.length < 100000 then compL tg p f s0 ds (acc ++ [y]) c2 else .bad
        | _ => .bad)
      | .ok false c1 => compL tg p f s0 ds acc c1
      | _ => .bad
def eComp (src : FA) (tg : Tg) (p : FT) (f : FE) (vs : List Nat) : FE := fun s c => (src s c).bind fun ds c1 => match compL tg p f (wipeD s vs) ds [] c1 with
  | .ok acc c2 => .ok (.lst acc) c2
  | _ => .bad
abbrev W0 : WX := fun _ _ _ _ => False
theorem Step.put {p : Addr} {u : HO} (s : Step r H r' H') (hp : H p = none) : Step r H r' (upd H' p u) := ⟨s.pre, fun a w e h => by rw [upd_ne (ne_of_none e hp)]; exact s.keep a w e h⟩
theorem snd_lc {wi : TI} {tg : Tg} {tt : TT} {te : TE} {src : FA} {p : FT} {f : FE} {vs : List Nat} (ho : tg.own vs = true) (hi : SndJ K W wi src) (hp : SndT K W0 tt p) (hf : SndE K W0 te f) : SndE K W (tLc wi (tg.g K) tt te vs) (eComp src tg p f vs) := fun r o c s H t Q hc hs h =>
  hi r o c s H t _ hc hs (ok_bind h fun ds c1 r1 H1 J s1 hc1 hJ h1 => by
    cases ec : compL tg p f (wipeD s vs) ds [] c1 with
    | err x c2 => simp only [ec] at h1; exact h1.elim
    | bad => simp only [ec] at h1; exact h1.elim
    | ok accF cF =>
      simp only [ec] at h1
      intro D hD
      have hs1 : SlOk K r1 o H1 (wipeD s vs) (wipe t vs) := (hs.mono s1).wipe vs
      refine ⟨fun i m H' => m = ds.length - i ∧ i ≤ ds.length ∧ ∃ r' c' acc us, Step r1 H1 r' H' ∧ Later r1 o H1 r' (D :: o) H' ∧ Cells K r' (D :: o) c' H' ∧ H' D = some (.lst us) ∧ IsL K r' (D :: o) H' acc us ∧
          compL tg p f (wipeD s vs) (ds.drop i) acc c' = .ok accF cF,
        ⟨ds.length, by simp, Nat.zero_le _, r1, c1, [], [], Step.new hD, (Sees.avoid hD).later, hc1.avoid hD, upd_same, .nil, by simpa using ec⟩, ?_⟩
      rintro i m H2 ⟨rfl, hi2, r2, c2, acc, us, st2, l2, hc2, hD2, ha2, e2⟩
      obtain ⟨hgo, hst⟩ := hJ r2 (D :: o) H2 c2 l2 hc2 i
      have nD : D ∉ r2 := fun z => hc2.out D z (by simp)
      by_cases hlt : i < ds.length
      · have ed : ds[i]? = some ds[i] := List.getElem?_eq_getElem hlt
        obtain ⟨go, yl⟩ := hgo _ ed
        rw [List.drop_eq_getElem_cons hlt] at e2
        refine .inr ⟨go, fun H' => ∃ r' c' acc us, Step r1 H1 r' H' ∧ Later r1 o H1 r' (D :: o) H' ∧ Cells K r' (D :: o) c' H' ∧ H' D = some (.lst us) ∧ IsL K r' (D :: o) H' acc us ∧
          compL tg p f (wipeD s vs) (ds.drop (i + 1)) acc c' = .ok accF cF, fun H' z => ⟨ds.length - (i + 1), by omega, rfl, hlt, z⟩, fun x H3 y => ?_⟩
        obtain ⟨k3, hx⟩ := yl x H3 y
        have st3 : Step r2 H2 r2 H3 := Step.grow k3
        have hc3 := hc2.grow k3
        have l3 := l2.trans (st3.later (o := D :: o))
        unfold compL at e2
        cases es : tg.set ds[i] (wipeD s vs) with
        | none => simp only [es] at e2; cases e2
        | some s' =>
          simp only [es] at e2
          refine Tg.run (vs := vs) (t0 := wipe t vs) ho hx (hs1.later l3) (wipe_wipe _ _) es fun t' ht' hw' => ⟨hw', ?_⟩
          cases ep : p s' c2 with
          | err x c3 => simp only [ep] at e2; cases e2
          | bad => simp only [ep] at e2; cases e2
          | ok b c3 =>
            refine hp r2 (D :: o) c2 s' H3 t' _ hc3 ht' ?_
            rw [ep]
            intro r4 H4 b' st4 hc4 hb
            cases hb
            have l4 := l3.trans (st4.later (o := D :: o))
            have hD4 : H4 D = some (.lst us) := st4.keep D _ (k3 D _ hD2) nD
            have nD4 : D ∉ r4 := fun z => hc4.out D z (by simp)
            have ha4 := (ha2.mono st3).mono st4
            cases b with
            | false =>
              simp only [ep] at e2
              exact ⟨r4, c3, acc, us, (st2.trans st3).trans st4, l4, hc4, hD4, ha4, e2⟩
            | true =>
              simp only [ep] at e2
              show te t' H4 _
              cases ef : f s' c3 with
              | err x c5 => simp only [ef] at e2; cases e2
              | bad => simp only [ef] at e2; cases e2
              | ok y c5 =>
                simp only [ef] at e2
                refine hf r4 (D :: o) c3 s' H4 t' _ hc4 (ht'.mono st4) ?_
                rw [ef]
                intro r5 H5 v st5 hc5 hv
                split at e2
                · rename_i hsz
                  refine ⟨us, st5.keep D _ hD4 nD4, Nat.lt_of_lt_of_le (by rw [← ha2.length]; exact hsz) (by decide : 100000 ≤ sizeLine), ?_⟩
                  have ha5 := ha4.mono st5
                  refine ⟨r5, c5, acc ++ [y], us ++ [v], (((st2.trans st3).trans st4).trans st5).put hD, (l4.trans (st5.later (o := D :: o))).trans Sees.turn.later, hc5.turn, upd_same, (ha5.app (.cons hv .nil)).sees Sees.turn, e2⟩
                · cases e2
      · have ei : i = ds.length := by omega
        subst ei
        rw [List.drop_length] at e2
        unfold compL at e2
        injection e2 with e3 e4
        subst e3; subst e4
        refine .inl ⟨hst (Nat.le_refl _), h1 r2 H2 (.ref D) st2 hc2.rest (.lst ⟨nD, hc1.freshO hD, hD2⟩ (ha2.sees Sees.rest))⟩)
theorem snd_yes : SndT K W tYes (fun _ c => .ok true c) := fun _ _ _ _ _ _ _ hc _ h => h.here hc rfl
end RL

set_option Elab.async false
set_option linter.all false
set_option maxRecDepth 100000
set_option maxHeartbeats 2000000
namespace RL
open PySem PySem.Spec PyProof.Rows L2
variable {K : PySem.W.Frag} {r r' r1 r2 o o' o1 : List Addr} {H H' H1 H2 : Hp} {c c' c1 c2 : Cs} {W : WX} {t : L2.St}
/-! ### the judgements: a piece of syntax and what it is worth -/
def RE (X : Cx) (W : WX) (e : Expr) (f : FE) : Prop := ∃ t, PE X e t ∧ SndE X.K W t f
def RT (X : Cx) (W : WX) (e : Expr) (f : FT) : Prop := ∃ t, PT X e t ∧ SndT X.K W t f
def RW (X : Cx) (W : WX) (e : Expr) (f : FT) : Prop := ∃ t, PW X e t ∧ SndT X.K W t f
def RA (X : Cx) (W : WX) (es : List Expr) (f : FA) : Prop := ∃ t, PA X es t ∧ SndA X.K W t f
def RS (X : Cx) (W : WX) (s : Stmt) (f : FS) : Prop := ∃ t, PS X s t ∧ SndS X.K W t f
def RSs (X : Cx) (W : WX) (s : List Stmt) (f : FS) : Prop := ∃ t, PSs X s t ∧ SndS X.K W t f
def RI (X : Cx) (W : WX) (tg e : Expr) (f : FA) : Prop := ∃ t, PI X tg e t ∧ SndJ X.K W t f
def RG (X : Cx) (W : WX) (e : Expr) (f : FG) : Prop := ∃ t, PG X e t ∧ SndG X.K W t f
section
variable {X : Cx} {e e1 e2 e3 : Expr} {es : List Expr} {f g h : FE} {fa : FA} {p q : FT} {pos : Pos} {st : Stmt} {sts : List Stmt} {fs gs : FS}
theorem re_var {i : Nat} {x : Str} (hN : X.N[i]? = some x) (hv : Vis X.env.scope x) (hd : (x == ("__debug__" : Str)) = false := by decide) (hcd : (x == ("__classdict__" : Str)) = false := by decide) : RE X W (.Name x pos) (eVar i) := ⟨_, pe_var hN hv hd hcd, snd_var⟩
theorem re_int {i : Int} {j} : RE X W (.Constant (.int i) j pos) (eC (.int i)) := ⟨_, pe_int, snd_int⟩
theorem re_str {x : Str} {j} : RE X W (.Constant (.str x) j pos) (eC (.str x)) := ⟨_, pe_str, snd_str⟩
theorem re_bl {b : Bool} {j} : RE X W (.Constant (.bool b) j pos) (eC (.bl b)) := ⟨_, pe_bl, snd_bl⟩
theorem re_non {j} : RE X W (.Constant .none j pos) (eC .non) := ⟨_, pe_non, snd_non⟩
/-- a constant of the module -/
def KonD (K : PySem.W.Frag) (mg : Str → Option Value) (x : Str) (d : D) : Prop := ∃ (v : V) (u : Value), mg x = some u ∧ RelV v u ∧ ∀ r o H, Is K r o H d v
theorem re_glob {x : Str} {d : D} (hg : Gl X x) (h : KonD X.K X.mg x d) (hd : (x == ("__debug__" : Str)) = false := by decide) : RE X W (.Name x pos) (eC d) := by
  obtain ⟨v, u, hm, rv, hi⟩ := h
  exact ⟨_, pe_glob hg hm rv hd, snd_k hi⟩
theorem ra_nil : RA X W [] aNil := ⟨_, pa_nil, snd_nil⟩
theorem ra_cons (he : RE X W e f) (hr : RA X W es fa) (hs : starEach (e :: es) X.env = (false, eval e X.env) :: starEach es X.env := by rfl) : RA X W (e :: es) (aCons f fa) := by
  obtain ⟨t, h1, h2⟩ := he
  obtain ⟨u, h3, h4⟩ := hr
  exact ⟨_, pa_cons h1 h3 hs, snd_cons h2 h4⟩
theorem re_tup {x1} (h : RA X W es fa) : RE X W (.Tuple es x1 pos) (eTup fa) := by
  obtain ⟨t, h1, h2⟩ := h
  exact ⟨_, pe_tup h1, snd_tup h2⟩
theorem re_lst (h : RA X W es fa) : RE X W (.List es pos) (eLst fa) := by
  obtain ⟨t, h1, h2⟩ := h
  exact ⟨_, pe_lst h1, snd_lst h2⟩
theorem re_new (h : RA X W es fa) : RE X W (.List es pos) (eNew fa) := by
  obtain ⟨t, h1, h2⟩ := h
  exact ⟨_, pe_lst h1, snd_new h2⟩
/-! operators -/
def RO (X : Cx) (W : WX) (w : Value → Value → Sem Value) (f : D → D → Cs → Res D) : Prop := ∃ q, OpR X w q ∧ SndO X.K W q f
theorem re_op {op : Operator} {fo : D → D → Cs → Res D} (ho : RO X W (binaryOp op) fo) (ha : RE X W e1 f) (hb : RE X W e2 g) : RE X W (.BinOp e1 op e2 pos) (eOp fo f g) := by
  obtain ⟨_, h1, h2⟩ := ho
  obtain ⟨_, h3, h4⟩ := ha
  obtain ⟨_, h5, h6⟩ := hb
  exact ⟨_, pe_op h1 h3 h5, snd_op h2 h4 h6⟩
theorem re_cmp {op : CmpOp} {fo : D → D → Cs → Res D} (ho : RO X W (compareOp op) fo) (ha : RE X W e1 f) (hb : RE X W e2 g) (hm : behindInMarks op e2 = false) : RE X W (.Compare e1 [op] [e2] pos) (eOp fo f g) := by
  obtain ⟨_, h1, h2⟩ := ho
  obtain ⟨_, h3, h4⟩ := ha
  obtain ⟨_, h5, h6⟩ := hb
  exact ⟨_, pe_cmpR h1 h3 h5 hm, snd_op h2 h4 h6⟩
theorem rt_cmp {op : CmpOp} {fo : D → D → Cs → Res D} (ho : RO X W (compareOp op) fo) (ha : RE X W e1 f) (hb : RE X W e2 g) (hm : behindInMarks op e2 = false) : RT X W (.Compare e1 [op] [e2] pos) (tsE (eOp fo f g)) := by
  obtain ⟨_, h1, h2⟩ := ho
  obtain ⟨_, h3, h4⟩ := ha
  obtain ⟨_, h5, h6⟩ := hb
  exact ⟨_, pt_cmpR h1 h3 h5 hm, snd_test (snd_op h2 h4 h6)⟩
/-- a < b < c -/
def eChain (fo fo' : D → D → Cs → Res D) (a b c : FE) : FE := fun s k => (a s k).bind fun d k1 => (b s k1).bind fun e k2 => (fo d e k2).bind fun z k3 => match z with
  | .bl true => (c s k3).bind fun d' k4 => fo' e d' k4
  | .bl false => .ok (.bl false) k3
  | _ => .bad
theorem snd_chain {q q' : R2} {fo fo' : D → D → Cs → Res D} {ta tb tc : TE} {a b c : FE} (ho : SndO K W q fo) (ho' : SndO K W q' fo') (ha : SndE K W ta a) (hb : SndE K W tb b) (hc : SndE K W tc c) : SndE K W (tChain q q' ta tb tc) (eChain fo fo' a b c) := fun r o k s H t Q hk hs h =>
  ha r o k s H t _ hk hs (ok_bind h fun d k1 r1 H1 v s1 hk1 hv h1 => hb r1 o k1 s H1 t _ hk1 (hs.mono s1) (ok_bind h1 fun e k2 r2 H2 w s2 hk2 hw h2 => ho r2 o k2 H2 t _ d e v w hk2 (hv.mono s2) hw (ok_bind h2 fun z k3 r3 H3 zv s3 hk3 hz h3 => by
    cases hz with
    | @bl b =>
      refine ⟨b, rfl, ?_⟩
      cases b with
      | true =>
        simp only [if_true]
        exact hc r3 o k3 s H3 t _ hk3 (((hs.mono s1).mono s2).mono s3) (ok_bind h3 fun d' k4 r4 H4 v' s4 hk4 hv' h4 => ho' r4 o k4 H4 t Q e d' w v' hk4 ((hw.mono s3).mono s4) hv' h4)
      | false =>
        simp only [Bool.false_eq_true, if_false]
        exact h3.here hk3 .bl
    | _ => exact h3.elim)))
theorem re_chain {op op' : CmpOp} {fo fo' : D → D → Cs → Res D} (ho : RO X W (compareOp op) fo) (ho' : RO X W (compareOp op') fo') (ha : RE X W e1 f) (hb : RE X W e2 g) (hc : RE X W e3 h) (hm : lastMarks [op, op'] [e2, e3] = false := by with_unfolding_all rfl) :
    RE X W (.Compare e1 [op, op'] [e2, e3] pos) (eChain fo fo' f g h) := by
  obtain ⟨_, h1, h2⟩ := ho
  obtain ⟨_, h1', h2'⟩ := ho'
  obtain ⟨_, h3, h4⟩ := ha
  obtain ⟨_, h5, h6⟩ := hb
  obtain ⟨_, h7, h8⟩ := hc
  exact ⟨_, pe_chain h1 h1' h3 h5 h7 hm, snd_chain h2 h2' h4 h6 h8⟩
theorem rt_chain {op op' : CmpOp} {fo fo' : D → D → Cs → Res D} (ho : RO X W (compareOp op) fo) (ho' : RO X W (compareOp op') fo') (ha : RE X W e1 f) (hb : RE X W e2 g) (hc : RE X W e3 h) (hm : lastMarks [op, op'] [e2, e3] = false := by with_unfolding_all rfl) :
    RT X W (.Compare e1 [op, op'] [e2, e3] pos) (tsE (eChain fo fo' f g h)) := by
  obtain ⟨_, h1, h2⟩ := ho
  obtain ⟨_, h1', h2'⟩ := ho'
  obtain ⟨_, h3, h4⟩ := ha
  obtain ⟨_, h5, h6⟩ := hb
  obtain ⟨_, h7, h8⟩ := hc
  exact ⟨_, pt_chain h1 h1' h3 h5 h7 hm, snd_test (snd_chain h2 h2' h4 h6 h8)⟩

/-! tests and bools -/
theorem rt_val (he : RE X W e f) (hh : ∀ whole, isTrue e X.env whole = (do let v ← whole; standAt e.pos; holding [v] (truthy v)) := by intro _; rfl) : RT X W e (tsE f) := by
  obtain ⟨_, h1, h2⟩ := he
  exact ⟨_, pt_val h1 hh, snd_testB h2⟩
theorem rt_not (he : RT X W e p) : RT X W (.UnaryOp .Not e pos) (tsNot p) := by
  obtain ⟨_, h1, h2⟩ := he
  exact ⟨_, pt_not h1, snd_not h2⟩
theorem rw_and1 (he : RT X W e p) : RW X W (.BoolOp .And [e] pos) p := by
  obtain ⟨_, h1, h2⟩ := he
  exact ⟨_, pw_and1 h1, h2⟩
theorem rw_or1 (he : RT X W e p) : RW X W (.BoolOp .Or [e] pos) p := by
  obtain ⟨_, h1, h2⟩ := he
  exact ⟨_, pw_or1 h1, h2⟩
theorem rw_and (he : RT X W e p) (hr : RW X W (.BoolOp .And (e1 :: es) pos) q) : RW X W (.BoolOp .And (e :: e1 :: es) pos) (tsAnd p q) := by
  obtain ⟨_, h1, h2⟩ := he
  obtain ⟨_, h3, h4⟩ := hr
  exact ⟨_, pw_and h1 h3, snd_and h2 h4⟩
theorem rw_or (he : RT X W e p) (hr : RW X W (.BoolOp .Or (e1 :: es) pos) q) : RW X W (.BoolOp .Or (e :: e1 :: es) pos) (tsOr p q) := by
  obtain ⟨_, h1, h2⟩ := he
  obtain ⟨_, h3, h4⟩ := hr
  exact ⟨_, pw_or h1 h3, snd_or h2 h4⟩
theorem rt_w (h : RW X W e p) : RT X W e p := by
  obtain ⟨_, h1, h2⟩ := h
  exact ⟨_, h1.pt, h2⟩
theorem re_one {op} (h : RE X W e f) : RE X W (.BoolOp op [e] pos) f := by
  obtain ⟨_, h1, h2⟩ := h
  exact ⟨_, pe_one h1, h2⟩
theorem re_and (ha : RE X W e f) (hb : RE X W (.BoolOp .And (e1 :: es) pos) g) : RE X W (.BoolOp .And (e :: e1 :: es) pos) (eAnd f g) := by
  obtain ⟨_, h1, h2⟩ := ha
  obtain ⟨_, h3, h4⟩ := hb
  exact ⟨_, pe_and h1 h3, snd_andV h2 h4⟩
theorem re_or (ha : RE X W e f) (hb : RE X W (.BoolOp .Or (e1 :: es) pos) g) : RE X W (.BoolOp .Or (e :: e1 :: es) pos) (eOr f g) := by
  obtain ⟨_, h1, h2⟩ := ha
  obtain ⟨_, h3, h4⟩ := hb
  exact ⟨_, pe_or h1 h3, snd_orV h2 h4⟩
theorem re_not (ha : RE X W e f) : RE X W (.UnaryOp .Not e pos) (eNot f) := by
  obtain ⟨_, h1, h2⟩ := ha
  exact ⟨_, pe_not h1, snd_notV h2⟩
theorem re_if (hp : RT X W e p) (ha : RE X W e1 f) (hb : RE X W e2 g) : RE X W (.IfExp e e1 e2 pos) (eIf p f g) := by
  obtain ⟨_, h1, h2⟩ := hp
  obtain ⟨_, h3, h4⟩ := ha
  obtain ⟨_, h5, h6⟩ := hb
  exact ⟨_, pe_ifExp h1 h3 h5, snd_ifE h2 h4 h6⟩
/-! statements -/
theorem rss_nil : RSs X W [] sNext := ⟨_, pss_nil, snd_next⟩
theorem rss_cons (h1 : RS X W st fs) (h2 : RSs X W sts gs) : RSs X W (st :: sts) (sSeq fs gs) := by
  obtain ⟨_, a1, a2⟩ := h1
  obtain ⟨_, a3, a4⟩ := h2
  exact ⟨_, pss_cons a1 a3, snd_seq a2 a4⟩
theorem rss_one (h : RS X W st fs) : RSs X W [st] fs := by
  obtain ⟨_, h1, h2⟩ := h
  exact ⟨_, pss_one h1, h2⟩
theorem rs_ret (h : RE X W e f) : RS X W (.Return (some e) pos) (sRet f) := by
  obtain ⟨_, h1, h2⟩ := h
  exact ⟨_, ps_ret h1, snd_ret h2⟩
theorem rs_retN : RS X W (.Return none pos) sRetN := ⟨_, ps_retN, snd_retN⟩
theorem rs_pass : RS X W (.Pass pos) sNext := ⟨_, ps_pass, snd_next⟩
theorem rs_break : RS X W (.Break pos) sBreak := ⟨_, ps_break, snd_break⟩
theorem rs_cont : RS X W (.Continue pos) sCont := ⟨_, ps_continue, snd_cont⟩
theorem rs_doc {x j pos'} : RS X W (.Expr (.Constant (.str x) j pos) pos') sNext := ⟨_, ps_doc, snd_next⟩
theorem rs_drop (h : RE X W e f) (hs : swapsWith e none pos.line X.env = pure false := by rfl) : RS X W (.Expr e pos) (sDrop f) := by
  obtain ⟨_, h1, h2⟩ := h
  exact ⟨_, ps_expr h1 hs, snd_drop h2⟩
theorem rs_if {a b : List Stmt} (hp : RT X W e p) (ha : RSs X W a fs) (hb : RSs X W b gs) : RS X W (.If e a b pos) (sIf p fs gs) := by
  obtain ⟨_, h1, h2⟩ := hp
  obtain ⟨_, h3, h4⟩ := ha
  obtain ⟨_, h5, h6⟩ := hb
  exact ⟨_, ps_if h1 h3 h5, snd_if h2 h4 h6⟩
theorem rs_while {b : List Stmt} {n : Nat} (hx : PassesOwn (model X.prog X.w) X.A X.env X.xe) (hp : RT X W e p) (hb : RSs X W b fs) : RS X W (.While e b [] pos) (loopW p fs n) := by
  obtain ⟨_, h1, h2⟩ := hp
  obtain ⟨_, h3, h4⟩ := hb
  exact ⟨_, ps_while hx h1 h3, snd_while h2 h4⟩
def sFor (f : FA) (g : FG) (b : FS) : FS := fun s c => (f s c).toS s fun ds c1 => loopL g b ds s c1
theorem rs_for {tg : Expr} {b : List Stmt} {fg : FG} (hx : PassesOwn (model X.prog X.w) X.A X.env X.xe) (hc : X.calm = true) (hi : RI X W tg e fa) (hg : RG X W tg fg) (hb : RSs X W b fs) (hs : ∀ x, foldedSetIterable e X.env x = pure x := by intro _; rfl) :
    RS X W (.For tg e b [] pos) (sFor fa fg fs) := by
  obtain ⟨_, h1, h2⟩ := hi
  obtain ⟨_, h3, h4⟩ := hg
  obtain ⟨_, h5, h6⟩ := hb
  exact ⟨_, ps_for hx hc h1 h3 h5 hs, snd_for h2 h4 h6⟩
theorem rs_set {i : Nat} {x : Str} {pos' : Pos} (hN : X.N.Nodup) (hi : X.N[i]? = some x) (hx : Loc X.env.scope x) (he : RE X W e f) (hs : swapsWith e (some (.Name x pos')) pos.line X.env = pure false := by rfl) (hf : X.fn x = true ∨ X.env.scope.names.lookup x = some .local := by first | exact .inl rfl | exact .inr rfl | assumption) :
    RS X W (.Assign [.Name x pos'] e pos) (sAsg f (gtName i)) := by
  obtain ⟨_, h1, h2⟩ := he
  exact ⟨_, ps_set hN hi hx h1 hs hf, snd_asg h2 snd_gname⟩
theorem rs_par {i j : Nat} {x y : Str} {a b : Expr} {px py pt : Pos} {kt k2 pt2} (hc : X.calm = true) (hN : X.N.Nodup) (hi : X.N[i]? = some x) (hj : X.N[j]? = some y) (hij : i ≠ j)
    (hx : X.env.scope.names.lookup x = some .local) (hy : X.env.scope.names.lookup y = some .local) (ha : RA X W [a, b] fa)
    (hw : swappedStores [.Tuple [.Name x px, .Name y py] kt pt] (.Tuple [a, b] k2 pt2) X.env = pure (some [x, y]))
    (hs : swapsWithSole [.Tuple [.Name x px, .Name y py] kt pt] (.Tuple [a, b] k2 pt2) pos.line X.env = pure false := by rfl) :
    RS X W (.Assign [.Tuple [.Name x px, .Name y py] kt pt] (.Tuple [a, b] k2 pt2) pos) (sPar i j fa) := by
  obtain ⟨_, h1, h2⟩ := ha
  exact ⟨_, ps_par hc hN hi hj hij hx hy h1 hw hs, snd_par h2⟩
theorem rg_name {i : Nat} {x : Str} (hN : X.N.Nodup) (hi : X.N[i]? = some x) (hx : Loc X.env.scope x) (hf : X.fn x = true ∨ X.env.scope.names.lookup x = some .local := by first | exact .inl rfl | exact .inr rfl | assumption) : RG X W (.Name x pos) (gtName i) :=
  ⟨_, pg_name hN hi hx hf, snd_gname⟩
theorem rg_tup {k : Nat} {is : List Nat} (hc : X.calm = true) (h : PGs X es (gNames is)) (hn : (assignEach es X.env).length = is.length := by rfl) (hst : (assignEach es X.env).findIdx? (·.1) = none := by rfl) : RG X W (.Tuple es k pos) (gtTup is) :=
  ⟨_, pg_tup hc h hn hst, snd_gtup⟩
theorem rs_asg {tg : Expr} {fg : FG} (he : RE X W e f) (hg : RG X W tg fg) (hs : swapsWithSole [tg] e pos.line X.env = pure false := by rfl) (hw : swappedStores [tg] e X.env = pure none := by rfl) (h1 : (assignEach [tg] X.env).map (·.2) = [assign tg X.env] := by rfl) :
    RS X W (.Assign [tg] e pos) (sAsg f fg) := by
  obtain ⟨_, h2, h3⟩ := he
  obtain ⟨_, h4, h5⟩ := hg
  exact ⟨_, ps_asg h2 h4 hs hw h1, snd_asg h3 h5⟩
/-! what is walked -/
theorem ri_seq {tg : Expr} (h : RE X W e f) : RI X W tg e (fSeq f) := by
  obtain ⟨_, h1, h2⟩ := h
  exact ⟨_, pi_seq h1, snd_iseq h2⟩
theorem ri_rng1 {tg : Expr} {p2 : Pos} (hg : Gl X "range") (hm : X.mg "range" = none) (ha : RA X W [e] fa) (hs : starEach [e] X.env = [(false, eval e X.env)] := by rfl) : RI X W tg (.Call (.Name "range" p2) [e] [] pos) (fRng1 fa) := by
  obtain ⟨_, h1, h2⟩ := ha
  exact ⟨_, pi_range1 hg hm h1 hs, snd_rng1 h2⟩
theorem ri_rng2 {tg : Expr} {p2 : Pos} (hg : Gl X "range") (hm : X.mg "range" = none) (ha : RA X W [e, e1] fa) (hs : starEach [e, e1] X.env = [(false, eval e X.env), (false, eval e1 X.env)] := by rfl) (hs2 : starEach [e1] X.env = [(false, eval e1 X.env)] := by rfl) :
    RI X W tg (.Call (.Name "range" p2) [e, e1] [] pos) (fRng2 fa) := by
  obtain ⟨_, h1, h2⟩ := ha
  exact ⟨_, pi_range2 hg hm h1 hs hs2, snd_rng2 h2⟩
theorem ri_rng3 {tg : Expr} {p2 : Pos} (hg : Gl X "range") (hm : X.mg "range" = none) (ha : RA X W [e, e1, e2] fa) (hs : starEach [e, e1, e2] X.env = (false, eval e X.env) :: starEach [e1, e2] X.env := by rfl) (hpl : (backTo pos (starEach [e1, e2] X.env)).any (·.1) = false := by rfl) :
    RI X W tg (.Call (.Name "range" p2) [e, e1, e2] [] pos) (fRng3 fa) := by
  obtain ⟨_, h1, h2⟩ := ha
  exact ⟨_, pi_range3 hg hm h1 hs hpl, snd_rng3 h2⟩
end
/-- a block of a comprehension -/
abbrev Blk (X : Cx) (scope : Scope) (Y : Cx) : Prop := ∃ (s : Shared) (H : Hp) (C : Addr) (cl : List (Str × Addr)) (fp : List Addr), Y = X.blk s H scope (compEnvC scope cl C X.env) fp
section
variable {X : Cx} {e : Expr} {fa : FA} {pos : Pos}
/-- the reading that a function gives -/
def tOfE (K : PySem.W.Frag) (W : WX) (f : FE) : TE := fun t H Q => ∃ r o c s, Cells K r o c H ∧ SlOk K r o H s t ∧ OkG K W (Is K) r o H t Q (f s c)
def tOfT (K : PySem.W.Frag) (W : WX) (f : FT) : TT := fun t H Q => ∃ r o c s, Cells K r o c H ∧ SlOk K r o H s t ∧ OkG K W RB r o H t Q (f s c)
theorem RE.canon {f : FE} (h : RE X W e f) : PE X e (tOfE X.K W f) := by
  obtain ⟨t, h1, h2⟩ := h
  exact ⟨fun pins s σ H Q I ⟨r, o, c, sl, hc, hs, q⟩ => h1.run pins s σ H Q I (h2 r o c sl H σ Q hc hs q)⟩
theorem RT.canon {f : FT} (h : RT X W e f) : PT X e (tOfT X.K W f) := by
  obtain ⟨t, h1, h2⟩ := h
  exact ⟨fun pins s σ H Q I ⟨r, o, c, sl, hc, hs, q⟩ => h1.run pins s σ H Q I (h2 r o c sl H σ Q hc hs q)⟩
theorem snd_ofE {f : FE} : SndE K W (tOfE K W f) f := fun r o c s H t Q hc hs h => ⟨r, o, c, s, hc, hs, h⟩
theorem snd_ofT {f : FT} : SndT K W (tOfT K W f) f := fun r o c s H t Q hc hs h => ⟨r, o, c, s, hc, hs, h⟩
/-- [elt for x in ..] -/
theorem re_lc {elt iter : Expr} {tge : Expr} {scope : Scope} {own : List (Str × Nat)} {tg : Tg} {f : FE} (hc : X.calm = true) (hN : X.N.Nodup) (hi : RI X W tge iter fa) (ok : blkC X.N X.env.scope scope own = true) (ho : tg.own (own.map (·.2)) = true)
    (hg : ∀ (s : Shared) (H : Hp) (C : Addr) (cl : List (Str × Addr)) (fp : List Addr), PG (X.blk s H scope (compEnvC scope cl C X.env) fp) tge (tg.g X.K))
    (he : ∀ (s : Shared) (H : Hp) (C : Addr) (cl : List (Str × Addr)) (fp : List Addr), RE (X.blk s H scope (compEnvC scope cl C X.env) fp) W0 elt f)
    (hs : ∀ x, foldedSetIterable iter X.env x = pure x := by intro _; rfl) : RE X W (.ListComp elt [⟨tge, iter, [], 0⟩] scope pos) (eComp fa tg (fun _ c => .ok true c) f (own.map (·.2))) := by
  obtain ⟨_, h1, h2⟩ := hi
  exact ⟨_, pe_lc hc hN h1 (blkOk_by ok) hg (fun _ _ _ _ _ => pts_nil) (fun s H C cl fp => (he s H C cl fp).canon) hs, snd_lc ho h2 snd_yes snd_ofE⟩
/-- [elt for x in .. if ..] -/
theorem re_lcIf {elt iter : Expr} {tge cnd : Expr} {scope : Scope} {own : List (Str × Nat)} {tg : Tg} {f : FE} {p : FT} (hc : X.calm = true) (hN : X.N.Nodup) (hi : RI X W tge iter fa) (ok : blkC X.N X.env.scope scope own = true) (ho : tg.own (own.map (·.2)) = true)
    (hg : ∀ (s : Shared) (H : Hp) (C : Addr) (cl : List (Str × Addr)) (fp : List Addr), PG (X.blk s H scope (compEnvC scope cl C X.env) fp) tge (tg.g X.K))
    (ht : ∀ (s : Shared) (H : Hp) (C : Addr) (cl : List (Str × Addr)) (fp : List Addr), RT (X.blk s H scope (compEnvC scope cl C X.env) fp) W0 cnd p)
    (he : ∀ (s : Shared) (H : Hp) (C : Addr) (cl : List (Str × Addr)) (fp : List Addr), RE (X.blk s H scope (compEnvC scope cl C X.env) fp) W0 elt f)
    (hs : ∀ x, foldedSetIterable iter X.env x = pure x := by intro _; rfl) : RE X W (.ListComp elt [⟨tge, iter, [cnd], 0⟩] scope pos) (eComp fa tg p f (own.map (·.2))) := by
  obtain ⟨_, h1, h2⟩ := hi
  exact ⟨_, pe_lc hc hN h1 (blkOk_by ok) hg (fun s H C cl fp => pts_one (ht s H C cl fp).canon) (fun s H C cl fp => (he s H C cl fp).canon) hs, snd_lc ho h2 snd_ofT snd_ofE⟩
theorem rs_setLc {i : Nat} {y : Str} {py : Pos} {spos : Pos} {elt iter : Expr} {tge : Expr} {scope : Scope} {own : List (Str × Nat)} {tg : Tg} {f : FE} (hc : X.calm = true) (hN : X.N.Nodup) (hy : X.N[i]? = some y) (hyl : X.env.scope.names.lookup y = some .local)
    (hsw : swapsWith (.ListComp elt [⟨tge, iter, [], 0⟩] scope pos) (some (.Name y py)) spos.line X.env = pure true) (hi : RI X W tge iter fa) (ok : blkC X.N X.env.scope scope own = true) (ho : tg.own (own.map (·.2)) = true)
    (hg : ∀ (s : Shared) (H : Hp) (C : Addr) (cl : List (Str × Addr)) (fp : List Addr), PG (X.blk s H scope (compEnvC scope cl C X.env) fp) tge (tg.g X.K))
    (he : ∀ (s : Shared) (H : Hp) (C : Addr) (cl : List (Str × Addr)) (fp : List Addr), RE (X.blk s H scope (compEnvC scope cl C X.env) fp) W0 elt f)
    (hs : ∀ x, foldedSetIterable iter X.env x = pure x := by intro _; rfl) : RS X W (.Assign [.Name y py] (.ListComp elt [⟨tge, iter, [], 0⟩] scope pos) spos) (sAsg (eComp fa tg (fun _ c => .ok true c) f (own.map (·.2))) (gtName i)) := by
  obtain ⟨_, h1, h2⟩ := hi
  exact ⟨_, ps_setLc hc hN hy hyl hsw h1 (blkOk_by ok) hg (fun _ _ _ _ _ => pts_nil) (fun s H C cl fp => (he s H C cl fp).canon) hs, snd_asg (snd_lc ho h2 snd_yes snd_ofE) snd_gname⟩
theorem rs_setLcIf {i : Nat} {y : Str} {py : Pos} {spos : Pos} {elt iter : Expr} {tge cnd : Expr} {scope : Scope} {own : List (Str × Nat)} {tg : Tg} {f : FE} {p : FT} (hc : X.calm = true) (hN : X.N.Nodup) (hy : X.N[i]? = some y) (hyl : X.env.scope.names.lookup y = some .local)
    (hsw : swapsWith (.ListComp elt [⟨tge, iter, [cnd], 0⟩] scope pos) (some (.Name y py)) spos.line X.env = pure true) (hi : RI X W tge iter fa) (ok : blkC X.N X.env.scope scope own = true) (ho : tg.own (own.map (·.2)) = true)
    (hg : ∀ (s : Shared) (H : Hp) (C : Addr) (cl : List (Str × Addr)) (fp : List Addr), PG (X.blk s H scope (compEnvC scope cl C X.env) fp) tge (tg.g X.K))
    (ht : ∀ (s : Shared) (H : Hp) (C : Addr) (cl : List (Str × Addr)) (fp : List Addr), RT (X.blk s H scope (compEnvC scope cl C X.env) fp) W0 cnd p)
    (he : ∀ (s : Shared) (H : Hp) (C : Addr) (cl : List (Str × Addr)) (fp : List Addr), RE (X.blk s H scope (compEnvC scope cl C X.env) fp) W0 elt f)
    (hs : ∀ x, foldedSetIterable iter X.env x = pure x := by intro _; rfl) : RS X W (.Assign [.Name y py] (.ListComp elt [⟨tge, iter, [cnd], 0⟩] scope pos) spos) (sAsg (eComp fa tg p f (own.map (·.2))) (gtName i)) := by
  obtain ⟨_, h1, h2⟩ := hi
  exact ⟨_, ps_setLc hc hN hy hyl hsw h1 (blkOk_by ok) hg (fun s H C cl fp => pts_one (ht s H C cl fp).canon) (fun s H C cl fp => (he s H C cl fp).canon) hs, snd_asg (snd_lc ho h2 snd_ofT snd_ofE) snd_gname⟩
end

/-! ### what a def promises; calls -/
abbrev FN := List D → Cs → Res D
/-- the wish of a def's callers -/
abbrev WF (E : XK) : WX := fun cls d _ H => E cls d H
def spR (K : PySem.W.Frag) (F : FN) : Sp := fun vs H Q E => ∃ r o c ds, Cells K r o c H ∧ IsL K r o H ds vs ∧ OkG K (WF E) (Is K) r o H [] Q (F ds c)
def eCall (F : FN) (f : FA) : FE := fun s c => (f s c).bind fun ds c1 => F ds c1
theorem snd_call {ta : TA} {f : FA} {F : FN} (hf : SndA K W ta f) : SndE K W (tCallS (spR K F) (WE W) ta) (eCall F f) := fun r o c s H t Q hc hs h =>
  hf r o c s H t _ hc hs (ok_bind h fun ds c1 r1 H1 vs s1 hc1 hv h1 => ⟨r1, o, c1, ds, hc1, hv, by
    cases e : F ds c1 with
    | ok d c2 => rw [e] at h1; exact h1
    | err x c2 => rw [e] at h1; exact h1
    | bad => rw [e] at h1; exact h1⟩)
/-- arguments in order, then the body; the end without truncation -/
def fin : SR → Res D
  | .nx _ c => .ok .non c
  | .rt d c => .ok d c
  | .err x _ c => .err x c
  | _ => .bad
def startD (n m : Nat) (ds : List D) : Sl := ds.map some ++ List.replicate (m - n) none
/-- n parameters, m names -/
def mkF (n m : Nat) (b : FS) : FN := fun ds c => if ds.length = n then fin (b (startD n m ds) c) else .bad
theorem SlOk.start {ds : List D} {vs : List V} {N : List Str} (h : IsL K r o H ds vs) (hn : N.length = m) (hd : ds.length = n) : SlOk K r o H (startD n m ds) (start N vs) := by
  unfold startD L2.start
  refine ⟨by simp only [List.length_append, List.length_map, List.length_replicate, hn, ← h.length, hd], fun i d e => ?_⟩
  by_cases hi : i < ds.length
  · rw [List.getElem?_append_left (by simpa using hi), List.getElem?_map] at e
    cases e2 : ds[i]? with
    | none => rw [e2] at e; cases e
    | some d' =>
      rw [e2] at e
      cases e
      obtain ⟨v, h1, h2⟩ := h.get e2
      exact ⟨v, by rw [List.getElem?_append_left (by rw [List.length_map, ← h.length]; exact hi), List.getElem?_map, h1]; rfl, h2⟩
  · rw [List.getElem?_append_right (by simpa using hi), List.getElem?_replicate] at e
    split at e <;> cases e
section
variable {P : Program} {w : World} {mg : Str → Option Value} {base : Heap}
theorem fn_mk {x qual : Str} {st : Stmt} {f : Addr} {fd : FuncData} {N ps : List Str} {n m k : Nat} {b : FS} (F : Fun K x qual st f fd) (S : FnScope N ps (defScope st)) (hn : ps.length = n) (hm : N.length = m)
    (hb : ∀ (cdv : Value) (A : Around) (outer : List Env) (s : Shared) (H : Hp) (E : XK), Room k (A.deeper (envOfC qual (defScope st) s.heap.objs.size f cdv)) → RSs (cxOf (L2.CX P w) P w K mg base N qual (defScope st) f cdv A outer s H E) (WF E) (defBody st) b) :
    FnOk P w K mg base (L2.CX P w) (k + 1) f fd ps (spR K (mkF n m b)) := by
  refine F.okX S (fun vs H Q E h => ?_) (fun cdv A outer s H vs Q E hr h => ?_)
  · obtain ⟨r, o, c, ds, hc, hv, q⟩ := h
    unfold mkF at q
    by_cases e : ds.length = n
    · rw [← hv.length, e, hn]
    · rw [if_neg e] at q; exact q.elim
  · obtain ⟨r, o, c, ds, hc, hv, q⟩ := h
    obtain ⟨t, h1, h2⟩ := hb cdv A outer s H E hr
    refine ⟨t, h1, ?_⟩
    unfold mkF at q
    by_cases e : ds.length = n
    · rw [if_pos e] at q
      refine h2 r o c (startD n m ds) H (start N vs) _ hc (SlOk.start hv hm e) ?_
      cases e2 : b (startD n m ds) c with
      | nx s' c' => rw [e2] at q; exact fun r' H' t' st hc' hs' => q r' H' .non st hc' .non
      | rt d c' => rw [e2] at q; exact fun r' H' v st hc' hv' => q r' H' v st hc' hv'
      | err x s' c' => rw [e2] at q; exact fun r' H' t' cls dx st hc' hs' hx => q r' H' cls dx st hc' hx
      | bk s' c' => rw [e2] at q; exact q.elim
      | ct s' c' => rw [e2] at q; exact q.elim
      | bad => rw [e2] at q; exact q.elim
    · rw [if_neg e] at q; exact q.elim
end
/-- a def of the module that is ready to be called -/
structure Ready (P : Program) (w : World) (K : PySem.W.Frag) (mg : Str → Option Value) (base : Heap) (k : Nat) (x : Str) (F : FN) : Prop where
  ex : ∃ (f : Addr) (fd : FuncData) (ps : List Str), FnOk P w K mg base (L2.CX P w) k f fd ps (spR K F) ∧ mg x = some (.ref f) ∧ PySem.W.keepIn K (.ref f) = true ∧ Binds K fd ps []
section
variable {X : Cx} {e : Expr} {es : List Expr} {fa : FA} {pos p : Pos}
theorem re_call {k j : Nat} {x : Str} {F : FN} (c : Ready X.prog X.w X.K X.mg X.base k x F) (tk : Takes X W) (hr : Room j X.A) (hk : k ≤ j) (hg : Gl X x) (ha : RA X W (e :: es) fa) (hdb : (x == ("__debug__" : Str)) = false := by decide)
    (he : starEach (e :: es) X.env = (false, eval e X.env) :: starEach es X.env := by rfl) (hpl : (backTo pos (starEach es X.env)).any (·.1) = false := by rfl) : RE X W (.Call (.Name x p) (e :: es) [] pos) (eCall F fa) := by
  obtain ⟨f, fd, ps, h1, h2, h3, h4⟩ := c.ex
  obtain ⟨ta, h5, h6⟩ := ha
  exact ⟨_, pe_callS h1 (hr.mono hk) hg h2 h3 h4 (fun σ => passAt tk σ) h5 hdb he hpl, snd_call h6⟩
end
end RL

set_option Elab.async false
set_option linter.all false
set_option maxRecDepth 100000
set_option maxHeartbeats 2000000
namespace RL
open PySem PySem.Spec PyProof.Rows L2
variable {K : PySem.W.Frag} {r r' r1 r2 o o' o1 : List Addr} {H H' H1 H2 : Hp} {c c' c1 c2 : Cs} {W : WX} {t : L2.St}
/-- the list at a value: it stands as a list of its own, or is a cell -/
def listOf (c : Cs) : D → Option (List D)
  | .lst l => some l
  | .cel n => (match c[n]? with | some (.lst l) => some l | _ => none)
  | _ => none
theorem listOf_at (hc : Cells K r o c H) {d : D} {v : V} {l : List D} (hv : Is K r o H d v) (e : listOf c d = some l) : ∃ a us, v = .ref a ∧ H a = some (.lst us) ∧ IsL K r o H l us := by
  cases hv with
  | lst a b => cases e; exact ⟨_, _, rfl, a.2.2, b⟩
  | @cel n a hn =>
    unfold listOf at e
    cases e2 : c[n]? with
    | none => simp only [e2] at e; cases e
    | some x =>
      simp only [e2] at e
      cases x with
      | lst l' =>
        cases e
        obtain ⟨us, q1, q2⟩ := hc.ok n a _ hn e2
        exact ⟨a, us, rfl, q1, q2⟩
      | ins C fs => cases e
      | tab _ _ => cases e
      | dic _ _ => cases e
  | _ => cases e
/-! ### + -/
def oAdd : D → D → Cs → Res D := fun d e c => match d, e with
  | .int i, .int j => .ok (.int (i + j)) c
  | .str x, .str y => if x.length + y.length ≤ 100000 then .ok (.str (x ++ y)) c else .bad
  | .tup x, .tup y => if x.length + y.length ≤ 100000 then .ok (.tup (x ++ y)) c else .bad
  | d, e => match listOf c d, listOf c e with
    | some x, some y => if x.length + y.length ≤ 100000 then .ok (.lst (x ++ y)) c else .bad
    | _, _ => .bad
theorem Is.eqTup {l : List D} {a b : Addr} {us : List V} (ha : TupAt K r o H a us) (hl : IsL K r o H l us) : Is K r o H (.tup l) (.ref a) := .tup ha hl
theorem ro_add {X : Cx} : RO X W (binaryOp .Add) oAdd := by
  refine ⟨_, ((op_add.or op_add_str).or op_catA).or op_cat, fun r o c H t Q d e x y hc hd he h => ?_⟩
  have lists : ∀ {l m : List D}, listOf c d = some l → listOf c e = some m → OkG X.K W (Is X.K) r o H t Q (if l.length + m.length ≤ 100000 then .ok (.lst (l ++ m)) c else .bad) → rCat x y H Q := fun {l m} e1 e2 h => by
    obtain ⟨a, us, rfl, ha, hl⟩ := listOf_at hc hd e1
    obtain ⟨b, ws, rfl, hb, hm⟩ := listOf_at hc he e2
    split at h
    · rename_i z
      exact ⟨a, b, us, ws, rfl, rfl, ha, hb, by rw [← hl.length, ← hm.length]; exact big_le z, fun p hp => h _ _ _ (Step.new hp) (hc.new hp) (Is.newLst hc hp (hl.app hm))⟩
    · exact h.elim
  unfold oAdd at h
  split at h
  · exact .inl (.inl (.inl ⟨_, _, hd.int_inv, he.int_inv, h.here hc .int⟩))
  · split at h
    · rename_i z
      exact .inl (.inl (.inr ⟨_, _, hd.str_inv, he.str_inv, big_le z, h.here hc .str⟩))
    · exact h.elim
  · rename_i l m
    obtain ⟨a, us, rfl, ha, hl⟩ := hd.tup_inv
    obtain ⟨b, ws, rfl, hb, hm⟩ := he.tup_inv
    split at h
    · rename_i z
      refine .inl (.inr ⟨a, b, us, ws, rfl, rfl, ha.sq, hb.sq, by rw [← hl.length, ← hm.length]; exact big_le z, fun e1 => ?_, fun e1 e2 => ?_, fun e1 e2 p hp => ?_⟩)
      · subst e1
        cases hl
        exact h.here hc (.tup hb hm)
      · subst e2
        cases hm
        rw [List.append_nil] at h
        exact h.here hc (.tup ha hl)
      · exact h _ _ _ (Step.new hp) (hc.new hp) (Is.newTup hc hp (hl.app hm))
    · exact h.elim
  · split at h
    · rename_i l m e1 e2
      exact .inr (lists e1 e2 h)
    · exact h.elim
/-! ### other arithmetic -/
def oSub : D → D → Cs → Res D := oI (fun _ _ => true) fun i j => .int (i - j)
def oMul : D → D → Cs → Res D := oI (fun i j => decide (-(2 ^ 64) < i ∧ i < 2 ^ 64) || decide (-(2 ^ 64) < j ∧ j < 2 ^ 64)) fun i j => .int (i * j)
def oDiv : D → D → Cs → Res D := oI (fun _ j => decide (0 < j ∧ j < 1073741824)) fun i j => .int (i / j)
def oMod : D → D → Cs → Res D := oI (fun _ j => decide (0 < j)) fun i j => .int (i % j)
def oPow : D → D → Cs → Res D := oI (fun i j => decide (0 ≤ j ∧ j ≤ 1000000 ∧ i.natAbs < 2 ^ 64)) fun i j => .int (i ^ j.toNat)
def oShr : D → D → Cs → Res D := oI (fun _ j => decide (0 ≤ j)) fun i j => .int (i / 2 ^ j.toNat)
def oAnd : D → D → Cs → Res D := oI (fun _ _ => true) fun i j => .int (Builtin.bitAnd i j)
theorem ro_sub {X : Cx} : RO X W (binaryOp .Sub) oSub := ⟨_, op_sub, snd_oI0 fun _ _ _ _ _ => .int⟩
theorem ro_div {X : Cx} : RO X W (binaryOp .FloorDiv) oDiv := ⟨_, op_fdiv, snd_oI (fun i j h => (of_decide_eq_true h : 0 < j ∧ j < 1073741824)) fun _ _ _ _ _ => .int⟩
theorem ro_mod {X : Cx} : RO X W (binaryOp .Mod) oMod := ⟨_, op_mod, snd_oI (fun i j h => of_decide_eq_true h) fun _ _ _ _ _ => .int⟩
theorem ro_pow {X : Cx} : RO X W (binaryOp .Pow) oPow := ⟨_, op_pow, snd_oI (fun i j h => (of_decide_eq_true h : 0 ≤ j ∧ j ≤ 1000000 ∧ i.natAbs < 2 ^ 64)) fun _ _ _ _ _ => .int⟩
theorem ro_shr {X : Cx} : RO X W (binaryOp .RShift) oShr := ⟨_, op_shr, snd_oI (fun i j h => of_decide_eq_true h) fun _ _ _ _ _ => .int⟩
theorem ro_and {X : Cx} : RO X W (binaryOp .BitAnd) oAnd := ⟨_, op_and, snd_oI0 fun _ _ _ _ _ => .int⟩
theorem ro_mul {X : Cx} : RO X W (binaryOp .Mult) oMul := ⟨_, op_mul, snd_oI (fun i j h => by
  simp only [Bool.or_eq_true, decide_eq_true_eq] at h
  exact h) fun _ _ _ _ _ => .int⟩
/-- a tuple times an int -/
def oMulT : D → D → Cs → Res D := fun d e c => match d, e with
  | .tup l, .int k => if l ≠ [] ∧ 2 ≤ k ∧ k ≤ 1000 ∧ l.length ≤ 1000 then .ok (.tup (List.replicate k.toNat l).flatten) c else .bad
  | _, _ => .bad
theorem IsL.rep {l : List D} {us : List V} (h : IsL K r o H l us) : ∀ n : Nat, IsL K r o H (List.replicate n l).flatten (List.replicate n us).flatten
  | 0 => .nil
  | n + 1 => by
    rw [List.replicate_succ, List.replicate_succ, List.flatten_cons, List.flatten_cons]
    exact h.app (h.rep n)
theorem ro_mulT {X : Cx} : RO X W (binaryOp .Mult) oMulT := by
  refine ⟨_, op_repT, fun r o c H t Q d e x y hc hd he h => ?_⟩
  unfold oMulT at h
  split at h
  · rename_i l k
    split at h
    · rename_i z
      obtain ⟨a, us, rfl, ha, hl⟩ := hd.tup_inv
      refine ⟨a, k, us, rfl, he.int_inv, ha.sq, fun e => z.1 (by subst e; cases hl; rfl), z.2.1, z.2.2.1, by rw [← hl.length]; exact z.2.2.2, fun p hp => h _ _ _ (Step.new hp) (hc.new hp) (Is.newTup hc hp (hl.rep _))⟩
    · exact h.elim
  · exact h.elim
/-! ### comparisons of ints and texts -/
def intsOf : List D → Option (List Int)
  | [] => some []
  | .int i :: r => (intsOf r).map (i :: ·)
  | _ :: _ => none
theorem intsOf_at : ∀ {ds : List D} {vs : List V} {ns : List Int}, IsL K r o H ds vs → intsOf ds = some ns → vs = ns.map V.int
  | [], _, _, .nil, e => by cases e; rfl
  | d :: ds, _, ys, .cons a b, e => by
    cases d with
    | int x =>
      unfold intsOf at e
      cases e2 : intsOf ds with
      | none => rw [e2] at e; cases e
      | some zs =>
        rw [e2] at e
        cases e
        rw [a.int_inv, intsOf_at b e2]
        rfl
    | _ => cases e
def oLt : D → D → Cs → Res D := fun d e c => match d, e with
  | .int i, .int j => .ok (.bl (decide (i < j))) c
  | .tup x, .tup y => (match intsOf x, intsOf y with | some ns, some ms => .ok (.bl (HT.lexLt ns ms)) c | _, _ => .bad)
  | .str x, .str y => .ok (.bl (decide (x.cps.toList < y.cps.toList))) c
  | _, _ => .bad
def oLe : D → D → Cs → Res D := fun d e c => match d, e with
  | .int i, .int j => .ok (.bl (decide (i ≤ j))) c
  | .str x, .str y => .ok (.bl (!decide (y.cps.toList < x.cps.toList))) c
  | _, _ => .bad
def oGt : D → D → Cs → Res D := fun d e c => match d, e with
  | .int i, .int j => .ok (.bl (decide (i > j))) c
  | _, _ => .bad
def oGe : D → D → Cs → Res D := fun d e c => match d, e with
  | .int i, .int j => .ok (.bl (decide (i ≥ j))) c
  | _, _ => .bad
theorem ro_lt {X : Cx} {k : Nat} (hr : Room k X.A) : RO X W (compareOp .Lt) oLt := by
  refine ⟨_, (op_lt.or op_lt_str).or (op_ltT hr.units0), fun r o c H t Q d e x y hc hd he h => ?_⟩
  unfold oLt at h
  split at h
  · exact .inl (.inl ⟨_, _, hd.int_inv, he.int_inv, h.here hc .bl⟩)
  · rename_i l m
    cases e1 : intsOf l with
    | none => simp only [e1] at h; exact h.elim
    | some ns =>
      cases e2 : intsOf m with
      | none => simp only [e1, e2] at h; exact h.elim
      | some ms =>
        simp only [e1, e2] at h
        obtain ⟨a, us, rfl, ha, hl⟩ := hd.tup_inv
        obtain ⟨b, ws, rfl, hb, hm⟩ := he.tup_inv
        have q1 := intsOf_at hl e1
        have q2 := intsOf_at hm e2
        subst q1; subst q2
        exact .inr ⟨a, b, ns, ms, rfl, rfl, ha.sq, hb.sq, h.here hc .bl⟩
  · exact .inl (.inr ⟨_, _, hd.str_inv, he.str_inv, h.here hc .bl⟩)
  · exact h.elim
theorem ro_le {X : Cx} : RO X W (compareOp .LtE) oLe := by
  refine ⟨_, op_le.or op_le_str, fun r o c H t Q d e x y hc hd he h => ?_⟩
  unfold oLe at h
  split at h
  · exact .inl ⟨_, _, hd.int_inv, he.int_inv, h.here hc .bl⟩
  · exact .inr ⟨_, _, hd.str_inv, he.str_inv, h.here hc .bl⟩
  · exact h.elim
theorem ro_gt {X : Cx} : RO X W (compareOp .Gt) oGt := by
  refine ⟨_, op_gt, fun r o c H t Q d e x y hc hd he h => ?_⟩
  unfold oGt at h
  split at h
  · exact ⟨_, _, hd.int_inv, he.int_inv, h.here hc .bl⟩
  · exact h.elim
theorem ro_ge {X : Cx} : RO X W (compareOp .GtE) oGe := by
  refine ⟨_, op_ge, fun r o c H t Q d e x y hc hd he h => ?_⟩
  unfold oGe at h
  split at h
  · exact ⟨_, _, hd.int_inv, he.int_inv, h.here hc .bl⟩
  · exact h.elim
/-! ### == by data -/
mutual
def pyOf : D → Option PyData
  | .non => some .none
  | .bl b => some (.bool b)
  | .int i => some (.int i)
  | .str x => some (.str x)
  | .tup l => (pyAll l).map .tuple
  | .lst l => (pyAll l).map .list
  | .scr l => (pyAll l).map .list
  | .cel _ => none
def pyAll : List D → Option (List PyData)
  | [] => some []
  | d :: ds => match pyOf d, pyAll ds with
    | some x, some xs => some (x :: xs)
    | _, _ => none
end
def pyTop (c : Cs) : D → Option PyData
  | .cel n => (match c[n]? with | some (.lst l) => (pyAll l).map .list | _ => none)
  | d => pyOf d
mutual
theorem dp_of : ∀ {d : D} {v : V} {p : PyData}, Is K r o H d v → pyOf d = some p → Dp K H v p
  | _, _, _, .non, e => by simp only [pyOf] at e; cases e; exact .non
  | _, _, _, .bl, e => by simp only [pyOf] at e; cases e; exact .bl _
  | _, _, _, .int, e => by simp only [pyOf] at e; cases e; exact .int _
  | _, _, _, .str, e => by simp only [pyOf] at e; cases e; exact .str _
  | .tup l, _, p, .tup a b, e => by
    simp only [pyOf] at e
    cases e2 : pyAll l with
    | none => rw [e2] at e; cases e
    | some ps => rw [e2] at e; cases e; exact .tup a.sq (dps_of b e2)
  | .lst l, _, p, .lst a b, e => by
    simp only [pyOf] at e
    cases e2 : pyAll l with
    | none => rw [e2] at e; cases e
    | some ps => rw [e2] at e; cases e; exact .lst a.sq (dps_of b e2)
  | .scr l, _, p, .scr a b, e => by
    simp only [pyOf] at e
    cases e2 : pyAll l with
    | none => rw [e2] at e; cases e
    | some ps => rw [e2] at e; cases e; exact .lst a.sq (dps_of b e2)
  | _, _, _, .cel _, e => by simp only [pyOf] at e; cases e
theorem dps_of : ∀ {ds : List D} {vs : List V} {ps : List PyData}, IsL K r o H ds vs → pyAll ds = some ps → DpAll K H vs ps
  | _, _, _, .nil, e => by simp only [pyAll] at e; cases e; exact .nil
  | d :: ds, _, _, .cons a b, e => by
    simp only [pyAll] at e
    cases e1 : pyOf d with
    | none => simp only [e1] at e; cases e
    | some x =>
      cases e2 : pyAll ds with
      | none => simp only [e1, e2] at e; cases e
      | some xs =>
        simp only [e1, e2] at e
        cases e
        exact .cons (dp_of a e1) (dps_of b e2)
end
theorem dp_top (hc : Cells K r o c H) {d : D} {v : V} {p : PyData} (hv : Is K r o H d v) (e : pyTop c d = some p) : Dp K H v p := by
  cases hv with
  | @cel n a hn =>
    unfold pyTop at e
    cases e2 : c[n]? with
    | none => simp only [e2] at e; cases e
    | some x =>
      cases x with
      | lst l =>
        simp only [e2] at e
        obtain ⟨us, q1, q2⟩ := hc.ok n a _ hn e2
        cases e3 : pyAll l with
        | none => rw [e3] at e; cases e
        | some ps => rw [e3] at e; cases e; exact .lst (.inl (.inl q1)) (dps_of q2 e3)
      | ins C fs => simp only [e2] at e; cases e
      | tab _ _ => simp only [e2] at e; cases e
      | dic _ _ => simp only [e2] at e; cases e
  | non => exact dp_of (r := r) (o := o) .non e
  | bl => exact dp_of (r := r) (o := o) .bl e
  | int => exact dp_of (r := r) (o := o) .int e
  | str => exact dp_of (r := r) (o := o) .str e
  | tup a b => exact dp_of (.tup a b) e
  | lst a b => exact dp_of (.lst a b) e
  | scr a b => exact dp_of (.scr a b) e
def eqD (c : Cs) (d e : D) : Option Bool := match pyTop c d, pyTop c e with
  | some x, some y => if SeqAt.shaped x = true ∧ SeqAt.shaped y = true then some (PyData.eqv x y) else none
  | _, _ => none
theorem eqD_ok (hc : Cells K r o c H) {d e : D} {x y : V} (hd : Is K r o H d x) (he : Is K r o H e y) {b : Bool} (h : eqD c d e = some b) : ∃ p q, Dp K H x p ∧ Dp K H y q ∧ SeqAt.shaped p = true ∧ SeqAt.shaped q = true ∧ PyData.eqv p q = b := by
  unfold eqD at h
  cases e1 : pyTop c d with
  | none => simp only [e1] at h; cases h
  | some p =>
    cases e2 : pyTop c e with
    | none => simp only [e1, e2] at h; cases h
    | some q =>
      simp only [e1, e2] at h
      split at h
      · rename_i z
        exact ⟨p, q, dp_top hc hd e1, dp_top hc he e2, z.1, z.2, Option.some.inj h⟩
      · cases h
def oEq : D → D → Cs → Res D := fun d e c => match eqD c d e with | some b => .ok (.bl b) c | none => .bad
def oNe : D → D → Cs → Res D := fun d e c => match eqD c d e with | some b => .ok (.bl (!b)) c | none => .bad
theorem ro_eq {X : Cx} {k : Nat} (hr : Room k X.A) : RO X W (compareOp .Eq) oEq := by
  refine ⟨_, op_eqD hr.units, fun r o c H t Q d e x y hc hd he h => ?_⟩
  unfold oEq at h
  cases e1 : eqD c d e with
  | none => simp only [e1] at h; exact h.elim
  | some b =>
    simp only [e1] at h
    obtain ⟨p, q, h1, h2, h3, h4, h5⟩ := eqD_ok hc hd he e1
    exact ⟨p, q, h1, h2, h3, h4, by rw [h5]; exact h.here hc .bl⟩
theorem ro_ne {X : Cx} {k : Nat} (hr : Room k X.A) : RO X W (compareOp .NotEq) oNe := by
  refine ⟨_, op_neD hr.units, fun r o c H t Q d e x y hc hd he h => ?_⟩
  unfold oNe at h
  cases e1 : eqD c d e with
  | none => simp only [e1] at h; exact h.elim
  | some b =>
    simp only [e1] at h
    obtain ⟨p, q, h1, h2, h3, h4, h5⟩ := eqD_ok hc hd he e1
    exact ⟨p, q, h1, h2, h3, h4, by rw [h5]; exact h.here hc .bl⟩
/-! ### is None -/
def oIsN : D → D → Cs → Res D := fun d e c => match e with | .non => (match d with | .non => .ok (.bl true) c | _ => .ok (.bl false) c) | _ => .bad
def oNotN : D → D → Cs → Res D := fun d e c => match e with | .non => (match d with | .non => .ok (.bl false) c | _ => .ok (.bl true) c) | _ => .bad
theorem ro_is {X : Cx} : RO X W (compareOp .Is) oIsN := by
  refine ⟨_, op_isN, fun r o c H t Q d e x y hc hd he h => ?_⟩
  unfold oIsN at h
  split at h
  · refine ⟨he.non_inv, ?_⟩
    cases hd <;> exact h.here hc .bl
  · exact h.elim
theorem ro_isnot {X : Cx} : RO X W (compareOp .IsNot) oNotN := by
  refine ⟨_, op_notN, fun r o c H t Q d e x y hc hd he h => ?_⟩
  unfold oNotN at h
  split at h
  · refine ⟨he.non_inv, ?_⟩
    cases hd <;> exact h.here hc .bl
  · exact h.elim
/-! ### in: of ints, texts, bools, None in a row; of a text in a text -/
def seqOf (c : Cs) : D → Option (List D)
  | .tup l => some l
  | .lst l => some l
  | .scr l => some l
  | .cel n => (match c[n]? with | some (.lst l) => some l | _ => none)
  | _ => none
theorem seqOf_at (hc : Cells K r o c H) {d : D} {v : V} {l : List D} (hv : Is K r o H d v) (e : seqOf c d = some l) : ∃ a us, v = .ref a ∧ (SqL K H a us ∨ SqT K H a us) ∧ IsL K r o H l us := by
  cases hv with
  | tup a b => cases e; exact ⟨_, _, rfl, .inr a.sq, b⟩
  | lst a b => cases e; exact ⟨_, _, rfl, .inl a.sq, b⟩
  | scr a b => cases e; exact ⟨_, _, rfl, .inl a.sq, b⟩
  | @cel n a hn =>
    unfold seqOf at e
    cases e2 : c[n]? with
    | none => simp only [e2] at e; cases e
    | some x =>
      cases x with
      | lst l' =>
        simp only [e2] at e
        cases e
        obtain ⟨us, q1, q2⟩ := hc.ok n a _ hn e2
        exact ⟨a, us, rfl, .inl (.inl (.inl q1)), q2⟩
      | ins C fs => simp only [e2] at e; cases e
      | tab _ _ => simp only [e2] at e; cases e
      | dic _ _ => simp only [e2] at e; cases e
  | _ => cases e
def flatD : D → Option V
  | .non => some .non
  | .bl b => some (.bl b)
  | .int i => some (.int i)
  | .str x => some (.str x)
  | _ => none
theorem flatD_at {d : D} {v w : V} (hv : Is K r o H d v) (e : flatD d = some w) : v = w := by
  cases hv <;> first | cases e; rfl | cases e
def flatAll : List D → Option (List V)
  | [] => some []
  | d :: ds => match flatD d, flatAll ds with
    | some x, some xs => some (x :: xs)
    | _, _ => none
theorem flatAll_at : ∀ {ds : List D} {vs ws : List V}, IsL K r o H ds vs → flatAll ds = some ws → vs = ws
  | _, _, _, .nil, e => by cases e; rfl
  | d :: ds, _, _, .cons a b, e => by
    simp only [flatAll] at e
    cases e1 : flatD d with
    | none => simp only [e1] at e; cases e
    | some x =>
      cases e2 : flatAll ds with
      | none => simp only [e1, e2] at e; cases e
      | some xs =>
        simp only [e1, e2] at e
        cases e
        rw [flatD_at a e1, flatAll_at b e2]
/-- x in y by values -/
def inD (c : Cs) (d e : D) : Option Bool := match d, e with
  | .str x, .str y => some (!(Builtin.Str.occurrences y x 0 y.length 1).isEmpty)
  | d, e => match flatD d, (seqOf c e).bind flatAll with
    | some x, some xs => if flatV x = true ∧ xs.all flatV = true then some (inV x xs) else none
    | _, _ => none
def oIn : D → D → Cs → Res D := fun d e c => match inD c d e with | some b => .ok (.bl b) c | none => .bad
def oNotIn : D → D → Cs → Res D := fun d e c => match inD c d e with | some b => .ok (.bl (!b)) c | none => .bad
theorem inD_ok (hc : Cells K r o c H) {d e : D} {x y : V} (hd : Is K r o H d x) (he : Is K r o H e y) {b : Bool} (h : inD c d e = some b) :
    (∃ i j, x = .str i ∧ y = .str j ∧ (!(Builtin.Str.occurrences j i 0 j.length 1).isEmpty) = b) ∨ ∃ p xs, y = .ref p ∧ (SqL K H p xs ∨ SqT K H p xs) ∧ flatV x = true ∧ xs.all flatV = true ∧ inV x xs = b := by
  unfold inD at h
  split at h
  · exact .inl ⟨_, _, hd.str_inv, he.str_inv, Option.some.inj h⟩
  · split at h
    · rename_i x' xs e1 e2
      split at h
      · rename_i z
        cases e3 : seqOf c e with
        | none => rw [e3] at e2; cases e2
        | some l =>
          rw [e3, Option.bind_some] at e2
          obtain ⟨a, us, rfl, h1, h2⟩ := seqOf_at hc he e3
          have q1 := flatD_at hd e1
          have q2 := flatAll_at h2 e2
          subst q1; subst q2
          exact .inr ⟨a, us, rfl, h1, z.1, z.2, Option.some.inj h⟩
      · cases h
    · cases h
theorem ro_in {X : Cx} : RO X W (compareOp .In) oIn := by
  refine ⟨_, op_in_str.or op_in_seq, fun r o c H t Q d e x y hc hd he h => ?_⟩
  unfold oIn at h
  cases e1 : inD c d e with
  | none => simp only [e1] at h; exact h.elim
  | some b =>
    simp only [e1] at h
    have q := h.here hc .bl
    rcases inD_ok hc hd he e1 with ⟨i, j, h1, h2, h3⟩ | ⟨p, xs, h1, h2, h3, h4, h5⟩
    · exact .inl ⟨i, j, h1, h2, by rw [h3]; exact q⟩
    · exact .inr ⟨p, xs, h1, h2, h3, h4, by rw [if_neg Bool.false_ne_true, h5]; exact q⟩
theorem ro_notin {X : Cx} : RO X W (compareOp .NotIn) oNotIn := by
  refine ⟨_, op_notin_str.or op_notIn_seq, fun r o c H t Q d e x y hc hd he h => ?_⟩
  unfold oNotIn at h
  cases e1 : inD c d e with
  | none => simp only [e1] at h; exact h.elim
  | some b =>
    simp only [e1] at h
    have q := h.here hc .bl
    rcases inD_ok hc hd he e1 with ⟨i, j, h1, h2, h3⟩ | ⟨p, xs, h1, h2, h3, h4, h5⟩
    · exact .inl ⟨i, j, h1, h2, by rw [h3]; exact q⟩
    · exact .inr ⟨p, xs, h1, h2, h3, h4, by rw [if_pos rfl, h5]; exact q⟩
/-! ### indexing -/
def oIx : D → D → Cs → Res D := fun d e c => match e with
  | .int i => (match d with
    | .str z => if z.length ≤ 100000 then (match atI z.cps.toList i with | some k => .ok (.str ⟨#[k]⟩) c | none => .bad) else .bad
    | d => match seqOf c d with
      | some l => (match atI l i with | some x => .ok x c | none => .bad)
      | none => .bad)
  | _ => .bad
theorem atI_at {ds : List D} {vs : List V} {i : Int} {d : D} (h : IsL K r o H ds vs) (e : atI ds i = some d) : ∃ v, atI vs i = some v ∧ Is K r o H d v := by
  unfold atI at e ⊢
  rw [h.length] at e
  cases e2 : ixN vs.length i with
  | none => rw [e2] at e; cases e
  | some j =>
    rw [e2, Option.bind_some] at e
    rw [Option.bind_some]
    exact h.get e
theorem snd_ix : SndO K W (rIx K) oIx := fun r o c H t Q d e x y hc hd he h => by
  unfold oIx at h
  split at h
  · rename_i i
    split at h
    · rename_i z
      split at h
      · rename_i hz
        cases e1 : atI z.cps.toList i with
        | none => simp only [e1] at h; exact h.elim
        | some k =>
          simp only [e1] at h
          exact .inr (.inr ⟨z, i, k, hd.str_inv, he.int_inv, big_le hz, e1, h.here hc .str⟩)
      · exact h.elim
    · cases e1 : seqOf c d with
      | none => simp only [e1] at h; exact h.elim
      | some l =>
        simp only [e1] at h
        cases e2 : atI l i with
        | none => simp only [e2] at h; exact h.elim
        | some x1 =>
          simp only [e2] at h
          obtain ⟨a, us, rfl, h1, h2⟩ := seqOf_at hc hd e1
          obtain ⟨v, h3, h4⟩ := atI_at h2 e2
          rcases h1 with h1 | h1
          · exact .inl ⟨a, us, i, v, rfl, he.int_inv, h1, h3, h.here hc h4⟩
          · exact .inr (.inl ⟨a, us, i, v, rfl, he.int_inv, h1, h3, h.here hc h4⟩)
  · exact h.elim
theorem re_ix {X : Cx} {e1 e2 : Expr} {f g : FE} {pos : Pos} (ha : RE X W e1 f) (hb : RE X W e2 g) (hs : PlainIx e2 := by intro _ _; rfl) : RE X W (.Subscript e1 e2 pos) (eOp oIx f g) := by
  obtain ⟨_, h1, h2⟩ := ha
  obtain ⟨_, h3, h4⟩ := hb
  exact ⟨_, pe_ix ix_seq h1 h3 hs, snd_op snd_ix h2 h4⟩
/-! ### slices -/
abbrev FO := Sl → Cs → Res (Option Int)
def ROk : List Addr → List Addr → Hp → Option Int → Option Int → Prop := fun _ _ _ a b => a = b
def SndP (K : PySem.W.Frag) (W : WX) (to : TO) (f : FO) : Prop := ∀ r o c s H t Q, Cells K r o c H → SlOk K r o H s t → OkG K W ROk r o H t Q (f s c) → to t H Q
def RP (X : Cx) (W : WX) (e : Option Expr) (f : FO) : Prop := ∃ t, PO X e t ∧ SndP X.K W t f
def pNone : FO := fun _ c => .ok none c
def pSome (f : FE) : FO := fun s c => (f s c).bind fun d c1 => match d with | .int i => .ok (some i) c1 | _ => .bad
def cutD (xs : List D) (lo hi : Option Int) : List D := (xs.drop (HT.sIx xs.length 0 lo)).take (HT.sIx xs.length xs.length hi - HT.sIx xs.length 0 lo)
theorem cutD_at {ds : List D} {vs : List V} (h : IsL K r o H ds vs) (lo hi : Option Int) : IsL K r o H (cutD ds lo hi) (cutV vs lo hi) := by
  unfold cutD cutV
  rw [h.length]
  exact (h.drop _).take _
/-- cell lists are cut into a list that nobody changes -/
def oSl (d : D) (lo hi : Option Int) (c : Cs) : Res D := match d with
  | .tup l => .ok (.tup (cutD l lo hi)) c
  | d => match listOf c d with
    | some l => .ok (.lst (cutD l lo hi)) c
    | none => .bad
theorem HTcut_whole {ds : List D} {lo hi : Option Int} (h : HT.sIx ds.length 0 lo = 0 ∧ HT.sIx ds.length ds.length hi = ds.length) : cutD ds lo hi = ds := by
  unfold cutD
  rw [h.1, h.2]; simp
def eSl (f : FE) (g h : FO) : FE := fun s c => (f s c).bind fun d c1 => (g s c1).bind fun lo c2 => (h s c2).bind fun hi c3 => oSl d lo hi c3
theorem re_sl {X : Cx} {e : Expr} {lo hi : Option Expr} {p2 pos : Pos} {f : FE} {g h : FO} (he : RE X W e f) (hl : RP X W lo g) (hh : RP X W hi h) : RE X W (.Subscript e (.Slice lo hi none p2) pos) (eSl f g h) := by
  obtain ⟨_, h1, h2⟩ := he
  obtain ⟨_, h3, h4⟩ := hl
  obtain ⟨_, h5, h6⟩ := hh
  refine ⟨_, pe_slice (sl_tupA.or sl_list) h1 h3 h5, fun r o c s H t Q hc hs q => ?_⟩
  refine h2 r o c s H t _ hc hs (ok_bind q fun d c1 r1 H1 v s1 hc1 hv q1 => ?_)
  refine h4 r1 o c1 s H1 t _ hc1 (hs.mono s1) (ok_bind q1 fun l c2 r2 H2 l' s2 hc2 el q2 => ?_)
  refine h6 r2 o c2 s H2 t _ hc2 ((hs.mono s1).mono s2) (ok_bind q2 fun u c3 r3 H3 u' s3 hc3 eu q3 => ?_)
  cases el; cases eu
  have hv3 := (hv.mono s2).mono s3
  unfold oSl at q3
  split at q3
  · rename_i l0
    obtain ⟨a, us, rfl, ha, hl⟩ := hv3.tup_inv
    refine .inl ⟨a, us, rfl, ha.sq, fun z => ?_, fun _ p hp => q3 _ _ _ (Step.new hp) (hc3.new hp) (Is.newTup hc3 hp (cutD_at hl _ _))⟩
    rw [← hl.length] at z
    rw [HTcut_whole z] at q3
    exact q3.here hc3 (.tup ha hl)
  · cases e1 : listOf c3 d with
    | none => simp only [e1] at q3; exact q3.elim
    | some l0 =>
      simp only [e1] at q3
      obtain ⟨a, us, rfl, ha, hl⟩ := listOf_at hc3 hv3 e1
      exact .inr ⟨a, us, rfl, .inl (.inl ha), fun p hp => q3 _ _ _ (Step.new hp) (hc3.new hp) (Is.newLst hc3 hp (cutD_at hl _ _))⟩
theorem rp_none {X : Cx} : RP X W none pNone := ⟨_, po_none, fun r o c s H t Q hc hs h => h.here hc rfl⟩
theorem rp_some {X : Cx} {e : Expr} {f : FE} (h : RE X W e f) : RP X W (some e) (pSome f) := by
  obtain ⟨_, h1, h2⟩ := h
  refine ⟨_, po_some h1, fun r o c s H t Q hc hs q => h2 r o c s H t _ hc hs (ok_bind q fun d c1 r1 H1 v s1 hc1 hv q1 => ?_)⟩
  split at q1
  · exact ⟨_, hv.int_inv, q1.here hc1 rfl⟩
  · exact q1.elim
/-! ### built-ins called -/
def SndC (K : PySem.W.Frag) (W : WX) (q : List V → Hp → VK → Prop) (f : List D → Cs → Res D) : Prop := ∀ r o c H t Q ds vs, Cells K r o c H → IsL K r o H ds vs → OkG K W (Is K) r o H t Q (f ds c) → q vs H Q
def RCl (X : Cx) (W : WX) (id : Value) (f : List D → Cs → Res D) : Prop := ∃ q, CallR X id q ∧ SndC X.K W q f
theorem snd_cb {q : List V → Hp → VK → Prop} {ta : TA} {F : List D → Cs → Res D} {f : FA} (hq : SndC K W q F) (hf : SndA K W ta f) : SndE K W (tCB q ta) (fun s c => (f s c).bind fun ds c1 => F ds c1) := fun r o c s H t Q hc hs h =>
  hf r o c s H t _ hc hs (ok_bind h fun ds c1 r1 H1 vs s1 hc1 hv h1 => hq r1 o c1 H1 t Q ds vs hc1 hv h1)
theorem re_cb {X : Cx} {e : Expr} {es : List Expr} {x : Str} {id : String} {p pos : Pos} {F : List D → Cs → Res D} {fa : FA} (hc : RCl X W (.builtin id) F) (hg : Gl X x) (hm : X.mg x = none) (hv : bootBuiltins x = some (.builtin id)) (ha : RA X W (e :: es) fa) (hn : x ≠ "__name__" := by decide) (hdb : (x == ("__debug__" : Str)) = false := by decide)
    (he : starEach (e :: es) X.env = (false, eval e X.env) :: starEach es X.env := by rfl) (hpl : (backTo pos (starEach es X.env)).any (·.1) = false := by rfl) : RE X W (.Call (.Name x p) (e :: es) [] pos) (eCall F fa) := by
  obtain ⟨_, h1, h2⟩ := hc
  obtain ⟨_, h3, h4⟩ := ha
  exact ⟨_, pe_callB h1 hg hm hv h3 hn hdb he hpl, snd_cb h2 h4⟩
theorem re_ct {X : Cx} {e : Expr} {es : List Expr} {x : Str} {id : String} {p pos : Pos} {F : List D → Cs → Res D} {fa : FA} (hc : RCl X W (.type id) F) (hg : Gl X x) (hm : X.mg x = none) (hv : bootBuiltins x = some (.type id)) (ha : RA X W (e :: es) fa) (hn : x ≠ "__name__" := by decide) (hdb : (x == ("__debug__" : Str)) = false := by decide)
    (he : starEach (e :: es) X.env = (false, eval e X.env) :: starEach es X.env := by rfl) (hpl : (backTo pos (starEach es X.env)).any (·.1) = false := by rfl) : RE X W (.Call (.Name x p) (e :: es) [] pos) (eCall F fa) := by
  obtain ⟨_, h1, h2⟩ := hc
  obtain ⟨_, h3, h4⟩ := ha
  exact ⟨_, pe_callTy h1 hg hm hv h3 hn hdb he hpl, snd_cb h2 h4⟩
def fLen : List D → Cs → Res D := fun ds c => match ds with
  | [.str z] => if z.length ≤ 100000 then .ok (.int z.length) c else .bad
  | [d] => (match seqOf c d with | some l => .ok (.int l.length) c | none => .bad)
  | _ => .bad
theorem rcl_len {X : Cx} : RCl X W (.builtin "len") fLen := by
  refine ⟨_, call_len, fun r o c H t Q ds vs hc hv h => ?_⟩
  unfold fLen at h
  split at h
  · cases hv with
    | cons a b =>
      cases b
      split at h
      · rename_i z hz
        exact ⟨_, _, rfl, by rw [a.str_inv]; exact ⟨big_le hz, rfl⟩, h.here hc .int⟩
      · exact h.elim
  · rename_i d _
    cases hv with
    | cons a b =>
      cases b
      cases e1 : seqOf c d with
      | none => simp only [e1] at h; exact h.elim
      | some l =>
        simp only [e1] at h
        obtain ⟨p, us, rfl, h1, h2⟩ := seqOf_at hc a e1
        refine ⟨_, us.length, rfl, h1.elim (fun z => .inl ⟨us, z, rfl⟩) fun z => .inr ⟨us, z, rfl⟩, ?_⟩
        rw [← h2.length]
        exact h.here hc .int
  · exact h.elim
def fInt : List D → Cs → Res D := fun ds c => match ds with
  | [.int i] => .ok (.int i) c
  | [.bl b] => .ok (.int (if b then 1 else 0)) c
  | _ => .bad
theorem rcl_int {X : Cx} : RCl X W (.type "int") fInt := by
  refine ⟨_, call_int1, fun r o c H t Q ds vs hc hv h => ?_⟩
  unfold fInt at h
  split at h
  · cases hv with
    | cons a b => cases b; exact .inl ⟨_, by rw [a.int_inv], h.here hc .int⟩
  · cases hv with
    | cons a b => cases b; exact .inr ⟨_, by rw [a.bl_inv], h.here hc .int⟩
  · exact h.elim
def fMin : List D → Cs → Res D := fun ds c => match ds with
  | [.int i, .int j] => .ok (.int (if j < i then j else i)) c
  | _ => .bad
theorem rcl_min {X : Cx} (hc : X.calm = true) : RCl X W (.builtin "min") fMin := by
  refine ⟨_, call_min2 hc, fun r o c H t Q ds vs hc hv h => ?_⟩
  unfold fMin at h
  split at h
  · cases hv with
    | cons a b =>
      cases b with
      | cons a2 b2 =>
        cases b2
        exact ⟨_, _, by rw [a.int_inv, a2.int_inv], h.here hc .int⟩
  · exact h.elim
def fMax : List D → Cs → Res D := fun ds c => match ds with
  | [.int i, .int j] => .ok (.int (if j > i then j else i)) c
  | _ => .bad
theorem rcl_max {X : Cx} (hc : X.calm = true) : RCl X W (.builtin "max") fMax := by
  refine ⟨_, call_max2 hc, fun r o c H t Q ds vs hc hv h => ?_⟩
  unfold fMax at h
  split at h
  · cases hv with
    | cons a b =>
      cases b with
      | cons a2 b2 =>
        cases b2
        exact ⟨_, _, by rw [a.int_inv, a2.int_inv], h.here hc .int⟩
  · exact h.elim
/-- list(x): a list that nobody changes -/
def fList : List D → Cs → Res D := fun ds c => match ds with
  | [d] => (match seqOf c d with | some l => .ok (.lst l) c | none => .bad)
  | _ => .bad
/-- .. that is changed later -/
def fListN : List D → Cs → Res D := fun ds c => match ds with
  | [d] => (match seqOf c d with | some l => .ok (.cel c.length) (c ++ [.lst l]) | none => .bad)
  | _ => .bad
theorem rcl_list {X : Cx} : RCl X W (.type "list") fList := by
  refine ⟨_, call_list_of, fun r o c H t Q ds vs hc hv h => ?_⟩
  unfold fList at h
  split at h
  · rename_i d
    cases hv with
    | cons a b =>
      cases b
      cases e1 : seqOf c d with
      | none => simp only [e1] at h; exact h.elim
      | some l =>
        simp only [e1] at h
        obtain ⟨p, us, rfl, h1, h2⟩ := seqOf_at hc a e1
        exact ⟨p, us, rfl, h1, fun q hq => h _ _ _ (Step.new hq) (hc.new hq) (Is.newLst hc hq h2)⟩
  · exact h.elim
theorem rcl_listN {X : Cx} : RCl X W (.type "list") fListN := by
  refine ⟨_, call_list_of, fun r o c H t Q ds vs hc hv h => ?_⟩
  unfold fListN at h
  split at h
  · rename_i d
    cases hv with
    | cons a b =>
      cases b
      cases e1 : seqOf c d with
      | none => simp only [e1] at h; exact h.elim
      | some l =>
        simp only [e1] at h
        obtain ⟨p, us, rfl, h1, h2⟩ := seqOf_at hc a e1
        refine ⟨p, us, rfl, h1, fun q hq => h _ _ _ (Step.cell hq (hc.fresh hq)) (hc.cell hq h2) (.cel ?_)⟩
        rw [← hc.len, List.getElem?_append_right (Nat.le_refl _)]; simp
  · exact h.elim
/-- tuple(x), x a list or a tuple -/
def oTupOf (d : D) (c : Cs) : Res D := match d with
  | .tup l => .ok (.tup l) c
  | d => match seqOf c d with | some l => .ok (.tup l) c | none => .bad
def eTupOf (f : FE) : FE := fun s c => (f s c).bind oTupOf
theorem re_tupOf {X : Cx} {a : Expr} {p pos : Pos} {f : FE} (hg : Gl X "tuple") (hm : X.mg "tuple" = none) (ha : RE X W a f) (na : starEach [a] X.env = (false, eval a X.env) :: starEach [] X.env := by rfl) : RE X W (.Call (.Name "tuple" p) [a] [] pos) (eTupOf f) := by
  obtain ⟨_, h1, h2⟩ := ha
  refine ⟨_, pe_tupleOf hg hm h1 na, fun r o c s H t Q hc hs h => h2 r o c s H t _ hc hs (ok_bind h fun d c1 r1 H1 v s1 hc1 hv q => ?_)⟩
  unfold oTupOf at q
  split at q
  · obtain ⟨b, us, rfl, ha, hl⟩ := hv.tup_inv
    exact .inr ⟨b, us, rfl, ha.sq, q.here hc1 (.tup ha hl)⟩
  · rename_i hne
    cases e1 : seqOf c1 d with
    | none => simp only [e1] at q; exact q.elim
    | some l =>
      simp only [e1] at q
      obtain ⟨b, us, rfl, h3, h4⟩ := seqOf_at hc1 hv e1
      cases hv with
      | tup _ _ => exact (hne _ rfl).elim
      | lst ha hl =>
        cases e1
        exact .inl ⟨_, _, rfl, ha.sq, fun p hp => q _ _ _ (Step.new hp) (hc1.new hp) (Is.newTup hc1 hp hl)⟩
      | scr ha hl =>
        cases e1
        exact .inl ⟨_, _, rfl, ha.sq, fun p hp => q _ _ _ (Step.new hp) (hc1.new hp) (Is.newTup hc1 hp hl)⟩
      | cel hn =>
        rcases h3 with h3 | h3
        · exact .inl ⟨_, _, rfl, h3, fun p hp => q _ _ _ (Step.new hp) (hc1.new hp) (Is.newTup hc1 hp h4)⟩
        · rename_i n
          unfold seqOf at e1
          cases e2 : c1[n]? with
          | none => simp only [e2] at e1; cases e1
          | some x =>
            cases x with
            | lst l' =>
              simp only [e2] at e1
              cases e1
              obtain ⟨us', q1, q2⟩ := hc1.ok n b _ hn e2
              exact .inl ⟨_, _, rfl, .inl (.inl q1), fun p hp => q _ _ _ (Step.new hp) (hc1.new hp) (Is.newTup hc1 hp q2)⟩
            | ins C fs => simp only [e2] at e1; cases e1
            | tab _ _ => simp only [e2] at e1; cases e1
            | dic _ _ => simp only [e2] at e1; cases e1
      | _ => cases e1
end RL

set_option Elab.async false
set_option linter.all false
set_option maxRecDepth 100000
set_option maxHeartbeats 2000000
namespace RL
open PySem PySem.Spec PyProof.Rows L2
variable {K : PySem.W.Frag} {r r' r1 r2 o o' o1 : List Addr} {H H' H1 H2 : Hp} {c c' c1 c2 : Cs} {W : WX} {t : L2.St}
/-! ### code that is never reached -/
theorem rs_dead {X : Cx} {st : Stmt} : RS X W st (fun _ _ => .bad) := ⟨fun _ _ _ => False, ⟨fun _ _ _ _ _ _ h => h.elim⟩, fun _ _ _ _ _ _ _ _ _ h => h⟩
theorem rss_dead {X : Cx} {st : List Stmt} : RSs X W st (fun _ _ => .bad) := ⟨fun _ _ _ => False, ⟨fun _ _ _ _ _ _ h => h.elim⟩, fun _ _ _ _ _ _ _ _ _ h => h⟩
theorem re_dead {X : Cx} {e : Expr} : RE X W e (fun _ _ => .bad) := ⟨fun _ _ _ => False, ⟨fun _ _ _ _ _ _ h => h.elim⟩, fun _ _ _ _ _ _ _ _ _ h => h⟩
theorem rt_dead {X : Cx} {e : Expr} : RT X W e (fun _ _ => .bad) := ⟨fun _ _ _ => False, ⟨fun _ _ _ _ _ _ h => h.elim⟩, fun _ _ _ _ _ _ _ _ _ h => h⟩
/-! ### isinstance -/
def tyName (c : Cs) : D → Option String
  | .non => some "NoneType"
  | .bl _ => some "bool"
  | .int _ => some "int"
  | .str _ => some "str"
  | .tup _ => some "tuple"
  | .lst _ => some "list"
  | .scr _ => some "list"
  | .cel n => (match c[n]? with | some (.lst _) => some "list" | _ => none)
theorem tyName_at (hc : Cells K r o c H) {d : D} {v : V} {T : String} (hv : Is K r o H d v) (e : tyName c d = some T) : TyX K H v (.type T) := by
  cases hv with
  | non => cases e; exact .base .non
  | bl => cases e; exact .base (.bl _)
  | int => cases e; exact .base (.int _)
  | str => cases e; exact .base (.str _)
  | tup a b =>
    cases e
    rcases a with a | ⟨ob, its, n, h1, h2, h3, h4, h5⟩
    · rcases a.2.2 with q | ⟨b, q⟩
      · exact .base (.tup q)
      · exact .fTuple q
    · exact .kTuple h1 h2
  | lst a b => cases e; exact .base (.lst a.2.2)
  | scr a b =>
    cases e
    rcases a with a | ⟨ob, its, n, h1, h2, h3, h4, h5, h6⟩
    · rcases a.2.2 with q | ⟨b, q⟩
      · exact .base (.lst q)
      · exact .base (.frz q)
    · exact .kList h1 h2
  | @cel n a hn =>
    unfold tyName at e
    cases e2 : c[n]? with
    | none => simp only [e2] at e; cases e
    | some x =>
      cases x with
      | lst l' =>
        simp only [e2] at e
        cases e
        obtain ⟨us, q1, q2⟩ := hc.ok n a _ hn e2
        exact .base (.lst q1)
      | ins C fs => simp only [e2] at e; cases e
      | tab _ _ => simp only [e2] at e; cases e
      | dic _ _ => simp only [e2] at e; cases e
def kitBs (a : String) : List String → Option Bool
  | [] => some false
  | b :: r => match kitB a b with
    | some true => some true
    | some false => kitBs a r
    | none => none
theorem kitBs_any {K : PySem.W.Frag} {a : String} : ∀ {bs : List String} {r : Bool}, kitBs a bs = some r → PySem.W.kitAny K (.type a) (bs.map Value.type) = some r
  | [], r, h => h
  | b :: bs, r, h => by
    unfold kitBs at h
    show (match PySem.W.kitOne K (.type a) (.type b) with | some true => some true | some false => PySem.W.kitAny K (.type a) (bs.map Value.type) | none => none) = some r
    cases e : kitB a b with
    | none => simp only [e] at h; cases h
    | some q =>
      rw [kit_ty e]
      cases q with
      | true => simp only [e] at h; exact h
      | false => simp only [e] at h; exact kitBs_any h
def isiD (c : Cs) (d : D) (Ts : List String) : Option Bool := (tyName c d).bind fun a => kitBs a Ts
def eIsi (f : FE) (Ts : List String) : FE := fun s c => (f s c).bind fun d c1 => match isiD c1 d Ts with | some b => .ok (.bl b) c1 | none => .bad
section
variable {X : Cx} {e : Expr} {f : FE} {p p2 pos : Pos} {T : Str} {id : String}
theorem kitBs_one {a b : String} {r : Bool} (h : kitBs a [b] = some r) : kitB a b = some r := by
  unfold kitBs at h
  cases e : kitB a b with
  | none => simp only [e] at h; cases h
  | some q =>
    cases q with
    | true => simp only [e] at h; exact h
    | false => simp only [e] at h; exact h
theorem re_isi (hg : Gl X "isinstance") (hm : X.mg "isinstance" = none) (he : RE X W e f) (hT : Gl X T) (mT : X.mg T = none) (vT : bootBuiltins T = some (.type id)) (hn : T ≠ "__name__" := by decide) (hd : (T == ("__debug__" : Str)) = false := by decide)
    (hs : starEach [e, .Name T p2] X.env = (false, eval e X.env) :: starEach [.Name T p2] X.env := by rfl) (hpl : (backTo pos (starEach [.Name T p2] X.env)).any (·.1) = false := by rfl) : RE X W (.Call (.Name "isinstance" p) [e, .Name T p2] [] pos) (eIsi f [id]) := by
  obtain ⟨_, h1, h2⟩ := he
  refine ⟨_, pe_callB call_isi hg hm PyProof.Rows.boot_isinstance (pa_cons h1 (pa_cons (pe_bltn (v := .ty id) hT mT vT rfl hn hd) pa_nil rfl) hs) (by decide) (by decide) hs hpl, fun r o c s H t Q hc hs h => ?_⟩
  refine h2 r o c s H t _ hc hs (ok_bind h fun d c1 r1 H1 v s1 hc1 hv h1 => ?_)
  unfold isiD at h1
  cases e1 : tyName c1 d with
  | none => simp only [e1, Option.bind_none] at h1; exact h1.elim
  | some a =>
    simp only [e1, Option.bind_some] at h1
    cases e2 : kitBs a [id] with
    | none => simp only [e2] at h1; exact h1.elim
    | some b =>
      simp only [e2] at h1
      exact ⟨v, .ty id, _, _, b, rfl, .ty id, tyName_at hc1 hv e1, kit_ty (kitBs_one e2), h1.here hc1 .bl⟩
/-- isinstance(x, (T1, T2)) -/
theorem re_isi2 {T2 : Str} {id2 : String} {k : Nat} {p3 p4 : Pos} (hg : Gl X "isinstance") (hm : X.mg "isinstance" = none) (he : RE X W e f) (hT : Gl X T) (mT : X.mg T = none) (vT : bootBuiltins T = some (.type id)) (hT2 : Gl X T2) (mT2 : X.mg T2 = none) (vT2 : bootBuiltins T2 = some (.type id2))
    (hn : T ≠ "__name__" := by decide) (hd : (T == ("__debug__" : Str)) = false := by decide) (hn2 : T2 ≠ "__name__" := by decide) (hd2 : (T2 == ("__debug__" : Str)) = false := by decide)
    (hs : starEach [e, .Tuple [.Name T p2, .Name T2 p3] k p4] X.env = (false, eval e X.env) :: starEach [.Tuple [.Name T p2, .Name T2 p3] k p4] X.env := by rfl) (hpl : (backTo pos (starEach [.Tuple [.Name T p2, .Name T2 p3] k p4] X.env)).any (·.1) = false := by rfl) :
    RE X W (.Call (.Name "isinstance" p) [e, .Tuple [.Name T p2, .Name T2 p3] k p4] [] pos) (eIsi f [id, id2]) := by
  obtain ⟨_, h1, h2⟩ := he
  refine ⟨_, pe_callB call_isiT hg hm PyProof.Rows.boot_isinstance (pa_cons h1 (pa_cons (pe_tup (pa_cons (pe_bltn (v := .ty id) hT mT vT rfl hn hd) (pa_cons (pe_bltn (v := .ty id2) hT2 mT2 vT2 rfl hn2 hd2) pa_nil rfl) rfl)) pa_nil rfl) hs) (by decide) (by decide) hs hpl, fun r o c s H t Q hc hs h => ?_⟩
  refine h2 r o c s H t _ hc hs (ok_bind h fun d c1 r1 H1 v s1 hc1 hv h1 => ?_)
  unfold isiD at h1
  cases e1 : tyName c1 d with
  | none => simp only [e1, Option.bind_none] at h1; exact h1.elim
  | some a =>
    simp only [e1, Option.bind_some] at h1
    cases e2 : kitBs a [id, id2] with
    | none => simp only [e2] at h1; exact h1.elim
    | some b =>
      simp only [e2] at h1
      refine ⟨by show 2 ≤ sizeLine; decide, fun p hp => ?_⟩
      exact ⟨v, p, [.ty id, .ty id2], _, [.type id, .type id2], b, rfl, upd_same, .cons (.ty id) (.cons (.ty id2) .nil), tyName_at (hc1.new hp) (hv.mono (Step.new hp)) e1, kitBs_any e2, h1 _ _ _ (Step.new hp) (hc1.new hp) .bl⟩
end
/-! ### methods of lists that change -/
def celOf (c : Cs) : D → Option (Nat × List D)
  | .cel n => (match c[n]? with | some (.lst l) => some (n, l) | _ => none)
  | _ => none
theorem celOf_at (hc : Cells K r o c H) {d : D} {v : V} {n : Nat} {l : List D} (hv : Is K r o H d v) (e : celOf c d = some (n, l)) : ∃ a us, v = .ref a ∧ r[n]? = some a ∧ c[n]? = some (.lst l) ∧ H a = some (.lst us) ∧ IsL K r o H l us := by
  cases hv with
  | @cel n' a hn =>
    unfold celOf at e
    cases e2 : c[n']? with
    | none => simp only [e2] at e; cases e
    | some x =>
      cases x with
      | lst l' =>
        simp only [e2] at e
        cases e
        obtain ⟨us, q1, q2⟩ := hc.ok _ a _ hn e2
        exact ⟨a, us, rfl, hn, e2, q1, q2⟩
      | ins C fs => simp only [e2] at e; cases e
      | tab _ _ => simp only [e2] at e; cases e
      | dic _ _ => simp only [e2] at e; cases e
  | _ => cases e
section
variable {X : Cx} {e1 e2 : Expr} {f g : FE} {apos cpos pos : Pos}
/-- xs.append(e) -/
def eApp (f g : FE) : FE := fun s c => (f s c).bind fun d c1 => match celOf c1 d with
  | none => .bad
  | some _ => (g s c1).bind fun e c2 => match celOf c2 d with
    | some (n, l) => if l.length < 100000 then .ok .non (c2.set n (.lst (l ++ [e]))) else .bad
    | none => .bad
theorem re_app (hf : RE X W e1 f) (hg : RE X W e2 g) (hbase : attributeBase e1 "append" X.env (eval e1 X.env) = eval e1 X.env := by rfl)
    (hfew : ((backTo cpos (starEach [e2] X.env)).all (fun x => !x.1) && (backToKw cpos (keywordEach [] X.env)).all (fun x => x.1.isSome) && decide ([e2].length + ([] : List Keyword).length + (if ([] : List Keyword).isEmpty then 0 else 1) < 30)) = true := by rfl)
    (hline : (apos.endLine == cpos.line) = true := by rfl) (hs : starEach [e2] X.env = (false, eval e2 X.env) :: starEach [] X.env := by rfl) (hpl : (backTo cpos (starEach [] X.env)).any (·.1) = false := by rfl) :
    RE X W (.Call (.Attribute e1 "append" apos) [e2] [] cpos) (eApp f g) := by
  obtain ⟨_, h1, h2⟩ := hf
  obtain ⟨_, h3, h4⟩ := hg
  refine ⟨_, pe_bm PySem.F.plainAttrs_list PySem.F.slot_list_append PySem.F.type_list_append mt_append h1 (pa_cons h3 pa_nil hs) hbase hfew hline hs hpl, fun r o c s H t Q hc hs h => ?_⟩
  refine h2 r o c s H t _ hc hs (ok_bind h fun d c1 r1 H1 v s1 hc1 hv q1 => ?_)
  cases ec : celOf c1 d with
  | none => simp only [ec] at q1; exact q1.elim
  | some z =>
    simp only [ec] at q1
    obtain ⟨n0, l0⟩ := z
    obtain ⟨a0, us0, e0, _, _, hl0, _⟩ := celOf_at hc1 hv ec
    refine ⟨by rw [e0]; exact .inl ⟨rfl, us0, .inl (.inl hl0)⟩, ?_⟩
    refine h4 r1 o c1 s H1 t _ hc1 (hs.mono s1) (ok_bind q1 fun d2 c2 r2 H2 w s2 hc2 hw q2 => ?_)
    cases ec2 : celOf c2 d with
    | none => simp only [ec2] at q2; exact q2.elim
    | some z2 =>
      obtain ⟨n, l⟩ := z2
      simp only [ec2] at q2
      split at q2
      · rename_i hz
        obtain ⟨a, us, ea, hn, hcn, hl, hu⟩ := celOf_at hc2 (hv.mono s2) ec2
        refine ⟨a, us, w, ea, rfl, hl, Nat.lt_of_lt_of_le (by rw [← hu.length]; exact hz) (by decide : 100000 ≤ sizeLine), ?_⟩
        exact q2 _ _ _ (Step.mut (List.mem_of_getElem? hn)) (hc2.setL hn (hu.app (.cons hw .nil))) .non
      · exact q2.elim
/-- xs.extend(ys), ys a list -/
def eExt (f g : FE) : FE := fun s c => (f s c).bind fun d c1 => match celOf c1 d with
  | none => .bad
  | some _ => (g s c1).bind fun e c2 => match celOf c2 d, listOf c2 e with
    | some (n, l), some m => if l.length + m.length ≤ 100000 then .ok .non (c2.set n (.lst (l ++ m))) else .bad
    | _, _ => .bad
theorem re_ext (hf : RE X W e1 f) (hg : RE X W e2 g) (hbase : attributeBase e1 "extend" X.env (eval e1 X.env) = eval e1 X.env := by rfl)
    (hfew : ((backTo cpos (starEach [e2] X.env)).all (fun x => !x.1) && (backToKw cpos (keywordEach [] X.env)).all (fun x => x.1.isSome) && decide ([e2].length + ([] : List Keyword).length + (if ([] : List Keyword).isEmpty then 0 else 1) < 30)) = true := by rfl)
    (hline : (apos.endLine == cpos.line) = true := by rfl) (hs : starEach [e2] X.env = (false, eval e2 X.env) :: starEach [] X.env := by rfl) (hpl : (backTo cpos (starEach [] X.env)).any (·.1) = false := by rfl) :
    RE X W (.Call (.Attribute e1 "extend" apos) [e2] [] cpos) (eExt f g) := by
  obtain ⟨_, h1, h2⟩ := hf
  obtain ⟨_, h3, h4⟩ := hg
  refine ⟨_, pe_bm PySem.F.plainAttrs_list PySem.F.slot_list_extend PySem.F.type_list_extend mt_extend h1 (pa_cons h3 pa_nil hs) hbase hfew hline hs hpl, fun r o c s H t Q hc hs h => ?_⟩
  refine h2 r o c s H t _ hc hs (ok_bind h fun d c1 r1 H1 v s1 hc1 hv q1 => ?_)
  cases ec : celOf c1 d with
  | none => simp only [ec] at q1; exact q1.elim
  | some z =>
    simp only [ec] at q1
    obtain ⟨n0, l0⟩ := z
    obtain ⟨a0, us0, e0, _, _, hl0, _⟩ := celOf_at hc1 hv ec
    refine ⟨by rw [e0]; exact .inl ⟨rfl, us0, .inl (.inl hl0)⟩, ?_⟩
    refine h4 r1 o c1 s H1 t _ hc1 (hs.mono s1) (ok_bind q1 fun d2 c2 r2 H2 w s2 hc2 hw q2 => ?_)
    cases ec2 : celOf c2 d with
    | none => simp only [ec2] at q2; exact q2.elim
    | some z2 =>
      obtain ⟨n, l⟩ := z2
      cases el : listOf c2 d2 with
      | none => simp only [ec2, el] at q2; exact q2.elim
      | some m =>
        simp only [ec2, el] at q2
        split at q2
        · rename_i hz
          obtain ⟨a, us, ea, hn, hcn, hl, hu⟩ := celOf_at hc2 (hv.mono s2) ec2
          obtain ⟨b, ws, eb, hb, hm⟩ := listOf_at hc2 hw el
          refine ⟨a, b, us, ws, ea, by rw [eb], hl, hb, by rw [← hu.length, ← hm.length]; exact big_le hz, ?_⟩
          exact q2 _ _ _ (Step.mut (List.mem_of_getElem? hn)) (hc2.setL hn (hu.app hm)) .non
        · exact q2.elim
/-- xs.pop() -/
def ePop (f : FE) : FE := fun s c => (f s c).bind fun d c1 => match celOf c1 d with
  | some (n, l) => (match l[l.length - 1]? with | some x => .ok x (c1.set n (.lst l.dropLast)) | none => .bad)
  | none => .bad
theorem re_pop (hf : RE X W e1 f) (hbase : attributeBase e1 "pop" X.env (eval e1 X.env) = eval e1 X.env := by rfl) (hline : (apos.endLine == cpos.line) = true := by rfl) : RE X W (.Call (.Attribute e1 "pop" apos) [] [] cpos) (ePop f) := by
  obtain ⟨_, h1, h2⟩ := hf
  refine ⟨_, pe_bm0 PySem.F.plainAttrs_list PySem.F.slot_list_pop PySem.F.type_list_pop mt_pop h1 hbase hline, fun r o c s H t Q hc hs h => ?_⟩
  refine h2 r o c s H t _ hc hs (ok_bind h fun d c1 r1 H1 v s1 hc1 hv q1 => ?_)
  cases ec : celOf c1 d with
  | none => simp only [ec] at q1; exact q1.elim
  | some z =>
    obtain ⟨n, l⟩ := z
    simp only [ec] at q1
    cases el : l[l.length - 1]? with
    | none => simp only [el] at q1; exact q1.elim
    | some x =>
      simp only [el] at q1
      obtain ⟨a, us, ea, hn, hcn, hl, hu⟩ := celOf_at hc1 hv ec
      obtain ⟨y, hy, hxy⟩ := hu.get el
      refine ⟨by rw [ea]; exact .inl ⟨rfl, us, .inl (.inl hl)⟩, a, us, y, ea, rfl, hl, by rw [← hu.length]; exact hy, ?_⟩
      have st := Step.mut (r := r1) (H := H1) (u := .lst us.dropLast) (List.mem_of_getElem? hn)
      exact q1 _ _ _ st (hc1.setL hn hu.dropLast) (hxy.mono st)
/-- xs[i] = .. -/
def gtSub (f g : FE) : FG := fun v s c => (f s c).toS s fun d c1 => (g s c1).toS s fun e c2 => match celOf c2 d, e with
  | some (n, l), .int i => (match ixN l.length i with | some j => .nx s (c2.set n (.lst (l.set j v))) | none => .bad)
  | _, _ => .bad
theorem rg_sub (hf : RE X W e1 f) (hg : RE X W e2 g) (ha : ∀ v, assign (.Subscript e1 e2 pos) X.env v = (do
      let ov ← holding [v] (eval e1 X.env)
      let iv ← holding [v, ov] (eval e2 X.env)
      standAt pos
      holding [v, ov, iv] (setItem ov iv v)
      release [v, ov, iv] []) := by intro _; rfl) : RG X W (.Subscript e1 e2 pos) (gtSub f g) := by
  obtain ⟨_, h1, h2⟩ := hf
  obtain ⟨_, h3, h4⟩ := hg
  refine ⟨_, pg_sub h1 h3 set_list ha, fun r o c s H t D dv vv hc hs hvv h => ?_⟩
  refine h2 r o c s H t _ hc hs (ok_toS hs h fun d c1 r1 H1 v s1 hc1 hv q1 => ?_)
  refine h4 r1 o c1 s H1 t _ hc1 (hs.mono s1) (ok_toS (hs.mono s1) q1 fun e c2 r2 H2 w s2 hc2 hw q2 => ?_)
  cases ec : celOf c2 d with
  | none => simp only [ec] at q2; exact q2.elim
  | some z =>
    obtain ⟨n, l⟩ := z
    cases e with
    | int i =>
      simp only [ec] at q2
      cases ej : ixN l.length i with
      | none => simp only [ej] at q2; exact q2.elim
      | some j =>
        simp only [ej] at q2
        obtain ⟨a, us, ea, hn, hcn, hl, hu⟩ := celOf_at hc2 (hv.mono s2) ec
        refine ⟨a, us, i, j, ea, hw.int_inv, hl, by rw [← hu.length]; exact ej, ?_⟩
        have st := Step.mut (r := r2) (H := H2) (u := .lst (us.set j vv)) (List.mem_of_getElem? hn)
        exact q2 _ _ _ st (hc2.setL hn (IsL.set ((hvv.mono s1).mono s2) j hu)) (((hs.mono s1).mono s2).mono st)
    | _ => simp only [ec] at q2; exact q2.elim
/-! ### texts -/
/-- s.index(x) -/
def eIdx (f g : FE) : FE := fun s c => (f s c).bind fun d c1 => match d with
  | .str a => (g s c1).bind fun e c2 => (match e with
    | .str b => (match Builtin.Str.occurrences a b 0 a.length 1 with | i :: _ => .ok (.int (i : Nat)) c2 | [] => .bad)
    | _ => .bad)
  | _ => .bad
theorem re_idx (hf : RE X W e1 f) (hg : RE X W e2 g) (hs : starEach [e2] X.env = [(false, eval e2 X.env)] := by rfl) (hbase : attributeBase e1 "index" X.env (eval e1 X.env) = eval e1 X.env := by rfl) (hline : (apos.endLine == pos.line) = true := by rfl) :
    RE X W (.Call (.Attribute e1 "index" apos) [e2] [] pos) (eIdx f g) := by
  obtain ⟨_, h1, h2⟩ := hf
  obtain ⟨_, h3, h4⟩ := hg
  refine ⟨_, pe_m1 PySem.F.slot_str_index PySem.F.type_str_index mt_sindex h1 h3 hs hbase hline, fun r o c s H t Q hc hs h => ?_⟩
  refine h2 r o c s H t _ hc hs (ok_bind h fun d c1 r1 H1 v s1 hc1 hv q1 => ?_)
  split at q1
  · rename_i a
    refine ⟨⟨a, hv.str_inv⟩, ?_⟩
    refine h4 r1 o c1 s H1 t _ hc1 (hs.mono s1) (ok_bind q1 fun e c2 r2 H2 w s2 hc2 hw q2 => ?_)
    split at q2
    · rename_i b
      split at q2
      · rename_i i rest eo
        exact ⟨a, b, i, rest, hv.str_inv, by rw [hw.str_inv], eo, q2.here hc2 .int⟩
      · exact q2.elim
    · exact q2.elim
  · exact q1.elim
/-- sep.join(list of texts) -/
def strsOf : List D → Option (List Str)
  | [] => some []
  | .str x :: r => (strsOf r).map (x :: ·)
  | _ :: _ => none
theorem strsOf_at : ∀ {ds : List D} {vs : List V} {ys : List Str}, IsL K r o H ds vs → strsOf ds = some ys → vs = ys.map V.str
  | [], _, _, .nil, e => by cases e; rfl
  | d :: ds, _, ys, .cons a b, e => by
    cases d with
    | str x =>
      unfold strsOf at e
      cases e2 : strsOf ds with
      | none => rw [e2] at e; cases e
      | some zs =>
        rw [e2] at e
        cases e
        rw [a.str_inv, strsOf_at b e2]
        rfl
    | _ => cases e
def eJoin (f g : FE) : FE := fun s c => (f s c).bind fun d c1 => match d with
  | .str a => (g s c1).bind fun e c2 => (match (seqOf c2 e).bind strsOf with
    | some ys => if (ys.map (·.length)).sum + ys.length * a.length ≤ 100000 then .ok (.str (Txt.join a ys)) c2 else .bad
    | none => .bad)
  | _ => .bad
theorem re_join (hf : RE X W e1 f) (hg : RE X W e2 g) (hs : starEach [e2] X.env = [(false, eval e2 X.env)] := by rfl) (hbase : attributeBase e1 "join" X.env (eval e1 X.env) = eval e1 X.env := by rfl) (hline : (apos.endLine == pos.line) = true := by rfl) :
    RE X W (.Call (.Attribute e1 "join" apos) [e2] [] pos) (eJoin f g) := by
  obtain ⟨_, h1, h2⟩ := hf
  obtain ⟨_, h3, h4⟩ := hg
  refine ⟨_, pe_join h1 h3 hs hbase hline, fun r o c s H t Q hc hs h => ?_⟩
  refine h2 r o c s H t _ hc hs (ok_bind h fun d c1 r1 H1 v s1 hc1 hv q1 => ?_)
  split at q1
  · rename_i a
    refine ⟨⟨a, hv.str_inv⟩, ?_⟩
    refine h4 r1 o c1 s H1 t _ hc1 (hs.mono s1) (ok_bind q1 fun e c2 r2 H2 w s2 hc2 hw q2 => ?_)
    cases e1 : seqOf c2 e with
    | none => simp only [e1, Option.bind_none] at q2; exact q2.elim
    | some l =>
      simp only [e1, Option.bind_some] at q2
      cases e2 : strsOf l with
      | none => simp only [e2] at q2; exact q2.elim
      | some ys =>
        simp only [e2] at q2
        split at q2
        · rename_i hz
          obtain ⟨p, us, rfl, h5, h6⟩ := seqOf_at hc2 hw e1
          have e3 := strsOf_at h6 e2
          subst e3
          exact ⟨a, p, ys, hv.str_inv, rfl, h5, Nat.le_trans hz (by decide), q2.here hc2 .str⟩
        · exact q2.elim
  · exact q1.elim
end
end RL

set_option Elab.async false
set_option linter.all false
set_option maxRecDepth 100000
set_option maxHeartbeats 2000000
namespace RL
open PySem PySem.Spec PyProof.Rows L2
variable {K : PySem.W.Frag} {r r' r1 r2 o o' o1 : List Addr} {H H' H1 H2 : Hp} {c c' c1 c2 : Cs} {W : WX} {t : L2.St}
/-! ### any, all of a generator expression: what they are worth -/
def qL (stop : Bool) (tg : Tg) (f : FE) (s0 : Sl) : List D → Cs → Res Bool
  | [], c => .ok (!stop) c
  | d :: ds, c => match tg.set d s0 with
    | none => .bad
    | some s1 => match f s1 c with
      | .ok (.bl b) c1 => if b = stop then .ok stop c1 else qL stop tg f s0 ds c1
      | _ => .bad
def hasTab (c : Cs) (n : Nat) (P : Addr) (q : Str) : Bool := match c[n]? with | some (.tab P' q') => decide (P' = P ∧ q' = q) | _ => false
theorem hasTab_at {n : Nat} {P : Addr} {q : Str} (h : hasTab c n P q = true) : c[n]? = some (.tab P q) := by
  unfold hasTab at h
  split at h
  · rename_i P' q' e
    obtain ⟨rfl, rfl⟩ := of_decide_eq_true h
    exact e
  · cases h
def eQ (stop : Bool) (n : Nat) (P : Addr) (q : Str) (src : FA) (tg : Tg) (f : FE) (vs : List Nat) : FE := fun s c => (src s c).bind fun ds c1 =>
  if hasTab c1 n P q = true then (match qL stop tg f (wipeD s vs) ds c1 with | .ok b c2 => .ok (.bl b) c2 | _ => .bad) else .bad
/-! ### the loops of the built-ins -/
section
variable {prog : Program} {w : World} {A : Around} {I : Addr} {R : Result → Shared → Prop}
theorem loop_all (St : Nat → Shared → Prop) (hstep : ∀ n s, St n s → wpAny (model prog w) A.in1 (pyNext (.ref I)) (fun r s1 => match r with
      | none => R (.ok (.ret (.bool true))) s1
      | some v => ∃ b, v = .bool b ∧ (b = true → ∃ m, m < n ∧ St m s1) ∧ (b = false → R (.ok (.ret (.bool false))) s1)) (fun _ _ => False) s) :
    ∀ n s, St n s → codeAny (model prog w) A (.builtin "all.loop" ⟨[.ref I], []⟩) R s := by
  intro n
  induction n using Nat.strongRecOn with
  | ind n ih =>
    intro s hs
    refine codeAny_builtin PySem.F.entry_all_loop ?_
    rw [Around.under_plainId PySem.F.plain_all_loop _]
    show wpAny _ A.in1 (pyNext (.ref I) >>= _) _ _ s
    refine wpAny_bind (thnF (hstep n s hs) fun r s1 h => ?_)
    cases r with
    | none => exact wpAny_bind (wpAny_rule (wpAny_pure h))
    | some v =>
      obtain ⟨b, rfl, h1, h2⟩ := h
      refine wpAny_bind (wpAny_holding (wpAny_truthy_bool ?_))
      refine wpAny_bind (wpAny_letGo ?_)
      cases b with
      | true =>
        simp only [if_true]
        obtain ⟨m, hm, hst⟩ := h1 rfl
        exact wpAny_pure ⟨plainId_quiet PySem.F.plain_all_loop _, ih m hm _ hst⟩
      | false =>
        simp only [Bool.false_eq_true, if_false]
        exact wpAny_bind (wpAny_rule (wpAny_pure (h2 rfl)))
theorem loop_any (St : Nat → Shared → Prop) (hstep : ∀ n s, St n s → wpAny (model prog w) A.in1 (pyNext (.ref I)) (fun r s1 => match r with
      | none => R (.ok (.ret (.bool false))) s1
      | some v => ∃ b, v = .bool b ∧ (b = false → ∃ m, m < n ∧ St m s1) ∧ (b = true → R (.ok (.ret (.bool true))) s1)) (fun _ _ => False) s) :
    ∀ n s, St n s → codeAny (model prog w) A (.builtin "any.loop" ⟨[.ref I], []⟩) R s := by
  intro n
  induction n using Nat.strongRecOn with
  | ind n ih =>
    intro s hs
    refine codeAny_builtin PySem.F.entry_any_loop ?_
    rw [Around.under_plainId PySem.F.plain_any_loop _]
    show wpAny _ A.in1 (pyNext (.ref I) >>= _) _ _ s
    refine wpAny_bind (thnF (hstep n s hs) fun r s1 h => ?_)
    cases r with
    | none => exact wpAny_bind (wpAny_rule (wpAny_pure h))
    | some v =>
      obtain ⟨b, rfl, h1, h2⟩ := h
      refine wpAny_bind (wpAny_holding (wpAny_truthy_bool ?_))
      refine wpAny_bind (wpAny_letGo ?_)
      cases b with
      | false =>
        simp only [Bool.false_eq_true, if_false]
        obtain ⟨m, hm, hst⟩ := h1 rfl
        exact wpAny_pure ⟨plainId_quiet PySem.F.plain_any_loop _, ih m hm _ hst⟩
      | true =>
        simp only [if_true]
        exact wpAny_bind (wpAny_rule (wpAny_pure (h2 rfl)))
end
/-! ### the generator's frame -/
abbrev gEnv (X : Cx) (scope : Scope) (C : Addr) (code : Value) : Env := genEnv scope (cloFrom X.env.cells scope.names []) C code builtinsNs X.env
theorem over_gen {A : Around} {elt : Expr} {gs : List Comprehension} {scope : Scope} {pos : Pos} {it acc : Value} {env : Env} : A.over (.compLoop (.GeneratorExp elt gs scope pos) 0 it acc env) [] = A.deeper env := by
  first
    | rfl
    | (obtain ⟨hd, d, fr, gs, u⟩ := A; simp [Around.over, Around.deeper, marksOver, frameCount, unitsOf, envsOf, guardsOf, pushEnvs, pushGuards, Code.envs, Code.env?, Code.isFrame, Code.guards, Code.isGuard, Code.weight, Code.frames, Code.isCreation, Code.isCaller, Code.cUnits])
theorem over_gen0 {A : Around} {elt : Expr} {gs : List Comprehension} {scope : Scope} {pos : Pos} {it acc : Value} {env : Env} : A.over (.compStart (.GeneratorExp elt gs scope pos) 0 it acc env) [] = A.deeper env := by
  first
    | rfl
    | (obtain ⟨hd, d, fr, gs, u⟩ := A; simp [Around.over, Around.deeper, marksOver, frameCount, unitsOf, envsOf, guardsOf, pushEnvs, pushGuards, Code.envs, Code.env?, Code.isFrame, Code.guards, Code.isGuard, Code.weight, Code.frames, Code.isCreation, Code.isCaller, Code.cUnits])
def genCx (X : Cx) (s : Shared) (H : Hp) (scope : Scope) (C : Addr) (code : Value) (fp : List Addr) : Cx where
  prog := X.prog
  w := X.w
  K := X.K
  mg := X.mg
  base := X.base
  A := X.A.in1.in1.deeper (gEnv X scope C code)
  N := X.N
  s_0 := s
  H_0 := H
  env := gEnv X scope C code
  outer := X.stack
  stack := gEnv X scope C code :: X.stack
  ex := fp
  fn := fun _ => false
  calm := true
  pn := []
  xe := fun _ _ => False
structure GenOk (N : List Str) (sc scope : Scope) (own : List (Str × Nat)) : Prop where
  blk : BlkOk N sc scope own
  co : scope.isCoroutine = false
  nocell : ∀ y ∈ scope.names, y.2 ≠ .cell
  dot : scope.names.lookup (".0" : Str) = some .local
def genC (N : List Str) (sc scope : Scope) (own : List (Str × Nat)) : Bool := blkC N sc scope own && !scope.isCoroutine && scope.names.all (fun y => decide (y.2 ≠ .cell)) && decide (scope.names.lookup (".0" : Str) = some .local)
theorem genOk_by {N : List Str} {sc scope : Scope} {own : List (Str × Nat)} (h : genC N sc scope own = true) : GenOk N sc scope own := by
  unfold genC at h
  simp only [Bool.and_eq_true, Bool.not_eq_true', List.all_eq_true, decide_eq_true_eq] at h
  obtain ⟨⟨⟨h1, h2⟩, h3⟩, h4⟩ := h
  exact ⟨blkOk_by h1, h2, h3, h4⟩
section
variable {X : Cx} {pins : List (Addr × Obj)} {σ : L2.St} {s s' : Shared}
theorem GenOk.has {scope : Scope} {own : List (Str × Nat)} (ok : GenOk X.N X.env.scope scope own) (xo : X.Ok) : ∀ y ∈ scope.names, y.2 = .free → ∃ c, X.env.cells.lookup y.1 = some c := fun y hy e => by
  rcases ok.blk.free y hy e with k | k
  · exact xo.has _ (.inl k)
  · exact xo.has _ (.inr k)
theorem gen_start {scope : Scope} {own : List (Str × Nat)} {fp : List Addr} {C : Addr} {code : Value} {m : Str → Option Value} {Pg : List (Addr × Obj)} (I : Inv X pins σ H s) (ok : GenOk X.N X.env.scope scope own) (hN : X.N.Nodup) (hd : X.A.handled = none) (hC : C = s.heap.objs.size)
    (hfp : ∀ b ∈ fp, FpOk X pins H b ∧ b < s.heap.objs.size) (hos : s'.os = s.os) (hb : AllBare s'.gens) (kp : ∀ b o, s.heap.get? b = some o → s'.heap.get? b = some o) (hns : s'.heap.Ns C m)
    (hp : ∀ p ∈ Pg, s'.heap.get? p.1 = some p.2 ∧ H p.1 = none ∧ p.1 ≠ C ∧ p.1 ∉ frs X.stack ∧ ∀ v, p.2.data ≠ .cell v) : Inv (genCx X s H scope C code fp) Pg (wipe σ (own.map (·.2))) H s' := by
  have hfree := ok.has I.ok
  have cm : ∀ {y c}, (cloFrom X.env.cells scope.names []).lookup y = some c → X.env.cells.lookup y = some c := fun {y c} e => by
    rcases cloFrom_mem (PySem.mem_of_lookup e) with hm | ⟨h1, h2⟩
    · cases hm
    · obtain ⟨c1, hc⟩ := hfree _ h1 rfl
      have hc : X.env.cells.lookup y = some c1 := hc
      have e2 : c = c1 := by
        rw [h2, hc] <;> rfl
      rw [e2]
      exact hc
  have look : ∀ {y}, scope.names.lookup y = some .free → ∃ c, (cloFrom X.env.cells scope.names []).lookup y = some c := fun {y} hl => by
    have hy : (y, NameKind.free) ∈ scope.names := PySem.mem_of_lookup hl
    exact mem_lookup (cloFrom_has (cells := X.env.cells) (acc := []) hy)
  refine ⟨⟨I.ok.mod, ok.blk.kind, I.ok.glob, rfl, ?_, fun y z c e1 e2 => I.ok.inj y z c (cm e1) (cm e2), fun y hy => ?_, fun y c z _ => ?_, fun _ => hd, ?_, .inr ⟨rfl, rfl⟩, fun b hbf => ⟨?_, fun y c e z => ?_⟩, I.bs, Nat.le_trans I.ok.bsz I.sz, fun b ob e hbf => ?_, fun b hbf z => ?_, I.stack, I.stkFree⟩,
    hos, hb, Un.kept kp, ⟨m, hns, fun i y v e1 e2 e3 => ?_⟩, fun y c e => ?_, ?_, fun y c e => I.freeC y c (cm e), fun p hpp => ?_, I.hok.kept kp, by rw [wipe_length]; exact I.len⟩
  · show s.heap.objs.size ≤ C
    rw [hC]; exact Nat.le_refl _
  · have hy : scope.names.lookup y = some .cell ∨ scope.names.lookup y = some .free := hy
    rcases hy with hy | hy
    · exact absurd rfl (ok.nocell _ (PySem.mem_of_lookup hy))
    · exact look hy
  · have z : false = true := z
    cases z
  · exact Around.frames_deeper I.ok.frames
  · show b ≠ C
    rw [hC]; exact Nat.ne_of_lt (hfp b hbf).2
  · exact (hfp b hbf).1.2.2.2.2.1 y c (cm e) z
  · rcases (hfp b hbf).1.2.2.2.1 with z | z
    · exact I.ok.noex b ob e z
    · exact absurd (Nat.lt_of_lt_of_le (Heap.lt_size e) (Nat.le_trans I.ok.bsz z)) (Nat.lt_irrefl _)
  · rcases List.mem_cons.mp (I.stkSub b z) with z | z
    · exact (hfp b hbf).1.2.1 z
    · exact (hfp b hbf).1.2.2.1 z
  · obtain ⟨e2, hne⟩ := wipe_some e2
    have no : ¬ scope.names.lookup y = some .local := fun k => by
      rcases ok.blk.own _ (PySem.mem_of_lookup k) (.inl rfl) with e' | e'
      · obtain ⟨p, hp, hpy⟩ := List.mem_map.mp e'
        have e3 := ok.blk.ix p hp
        have : p.1 = y := hpy
        rw [this] at e3
        exact hne (List.mem_map.mpr ⟨p, hp, nodup_ix hN e3 e1⟩)
      · exact e' (List.mem_of_getElem? e1)
    have e3 : Vis scope y := e3
    rcases e3 with k | k | k
    · exact absurd k no
    · exact absurd rfl (ok.nocell _ (PySem.mem_of_lookup k))
    · obtain ⟨m', hn, hl⟩ := I.loc
      have hvis : Vis X.env.scope y := (ok.blk.free _ (PySem.mem_of_lookup k) rfl).elim (fun k => .inr (.inl k)) (fun k => .inr (.inr k))
      obtain ⟨w', rr, q⟩ := hl i y v e1 e2 hvis
      obtain ⟨c2, h2⟩ := look k
      refine ⟨w', rr, .inr ⟨.inr k, c2, h2, ?_⟩⟩
      have c1 := cm h2
      rcases q with ⟨k', _⟩ | ⟨_, c3, e', z⟩
      · have k' : X.env.scope.names.lookup y = some .local := k'
        rcases ok.blk.free _ (PySem.mem_of_lookup k) rfl with k2 | k2 <;> rw [show X.env.scope.names.lookup y = _ from k2] at k' <;> cases k'
      · rw [c1] at e'
        cases e'
        exact z.keeps kp
  · obtain ⟨w', z⟩ := I.cell y c (cm e)
    exact ⟨w', z.keeps kp⟩
  · show H C = none
    rw [hC]; exact I.hok.fresh (Nat.le_refl _)
  · exact hp p ((List.mem_append.mp hpp).elim (fun z => absurd (show p ∈ ([] : List (Addr × Obj)) from z) (by simp)) id)
end
/-! ### a table changes -/
theorem upd_comm {p q : Addr} {u v : HO} (h : p ≠ q) : upd (upd H p u) q v = upd (upd H q v) p u := by
  funext b
  by_cases h1 : b = q
  · subst h1
    rw [upd_same, upd_ne (Ne.symm h), upd_same]
  · by_cases h2 : b = p
    · subst h2
      rw [upd_ne h1, upd_same, upd_same]
    · rw [upd_ne h1, upd_ne h2, upd_ne h2, upd_ne h1]
theorem set_id {α : Type} {l : List α} {n : Nat} {x : α} (h : l[n]? = some x) : l.set n x = l := by
  apply List.ext_getElem?
  intro i
  by_cases hi : i = n
  · subst hi
    rw [h, List.getElem?_set_self (List.getElem?_eq_some_iff.mp h).1]
  · rw [List.getElem?_set_ne (Ne.symm hi)]
theorem Cells.tabled (h : Cells K r o c H) {n : Nat} {P cn : Addr} {q : Str} {ps ps' : Array Value} (hc : c[n]? = some (.tab P q)) (hP : H P = some (.tbl ps)) (hn : H cn = none) (ht : TriplesOk ps'.toList)
    (hcode : ∀ pos cv, codeAmong pos ps'.toList = some cv → codeAmong pos ps.toList = some cv ∨ cv = .ref cn) :
    Cells K r o c (upd (upd H P (.tbl ps')) cn (LamX.CodeO cn q)) ∧ Step r H r (upd (upd H P (.tbl ps')) cn (LamX.CodeO cn q)) := by
  have hne : P ≠ cn := fun z => by rw [z, hn] at hP; cases hP
  rw [upd_comm hne]
  obtain ⟨a, ha, rfl, qs, e1, e2, e3⟩ := h.get hc
  rw [hP] at e1
  cases e1
  have h1 := h.new (u := LamX.CodeO cn q) hn
  have s1 : Step r H r (upd H cn (LamX.CodeO cn q)) := Step.new hn
  have s2 : Step r (upd H cn (LamX.CodeO cn q)) r (upd (upd H cn (LamX.CodeO cn q)) a (.tbl ps')) := Step.mut (List.mem_of_getElem? ha)
  have h2 := h1.setX (x := .tab a q) (u := .tbl ps') ha ⟨rfl, ps', upd_same, ht, fun pos cv hcv => by
    rcases hcode pos cv hcv with z | z
    · obtain ⟨c0, q1, q2, q3, q4⟩ := e3 pos cv z
      exact ⟨c0, q1, by rw [upd_ne (fun z => q3 (by rw [z]; exact List.mem_of_getElem? ha)), upd_ne (ne_of_none q2 hn)]; exact q2, q3, q4⟩
    · exact ⟨cn, z, by rw [upd_ne (Ne.symm hne), upd_same], h.fresh hn, h.freshO hn⟩⟩
  rw [set_id hc] at h2
  exact ⟨h2, s1.trans s2⟩
end RL

set_option Elab.async false
set_option linter.all false
set_option maxRecDepth 100000
set_option maxHeartbeats 4000000
namespace RL
open PySem PySem.Spec PyProof.Rows L2
section
variable {X : Cx} {pins Pg : List (Addr × Obj)} {σ : L2.St} {H3 : Hp} {s3 : Shared} {fp : List Addr} {tn : Nat → Heap → Prop} {o r3 : List Addr} {stop : Bool} {tg : Tg} {f : FE} {s0 : Sl} {ds : List D} {bF : Bool} {cF : Cs} {scope : Scope} {C : Addr} {code : Value} {vs : List Nat} {J : It} {it : Addr} {elt tge iter : Expr} {pos : Pos}
/-- ahead of the turn i -/
def StG (X : Cx) (s3 : Shared) (H3 : Hp) (scope : Scope) (C : Addr) (code : Value) (fp : List Addr) (Pg : List (Addr × Obj)) (σw : L2.St) (tn : Heap → Prop) (o r3 : List Addr) (Z : Cs → Prop) (s : Shared) : Prop :=
  ∃ Hi ri ci, Inv (genCx X s3 H3 scope C code fp) Pg σw Hi s ∧ tn s.heap ∧ (∀ b ∈ fp, Hi b = none) ∧ Step r3 H3 ri Hi ∧ Cells X.K ri o ci Hi ∧ Z ci
abbrev ProtG (ST : (Heap → Prop) → (Cs → Prop) → Shared → Prop) (tn : Nat → Heap → Prop) (stop : Bool) (tg : Tg) (f : FE) (s0 : Sl) (ds : List D) (bF : Bool) (cF : Cs) : Protocol := fun n s0' v s kap =>
  ∃ b i, v = .bool b ∧ i < ds.length ∧ n = ds.length - (i + 1) + 1 ∧ ST (tn (i + 1)) (fun ci => if b = stop then bF = stop ∧ cF = ci else qL stop tg f s0 (ds.drop (i + 1)) ci = .ok bF cF) s ∧
    (b ≠ stop → ∀ s'' : Shared, s''.heap = s.heap → s''.os = s.os → AllBare s''.gens → kap (.send .none) s'')
abbrev EndG (ST : (Heap → Prop) → (Cs → Prop) → Shared → Prop) (stop : Bool) (ds : List D) (bF : Bool) (cF : Cs) : GenEnd := fun _ _ r s1 => r = .ok .next ∧ ST (fun _ => True) (fun ci => bF = !stop ∧ cF = ci) s1
theorem StG.gens {T : Heap → Prop} {Z : Cs → Prop} {σw : L2.St} {s s' : Shared} (h : StG X s3 H3 scope C code fp Pg σw T o r3 Z s) (e1 : s'.heap = s.heap) (e2 : s'.os = s.os) (hb : AllBare s'.gens) : StG X s3 H3 scope C code fp Pg σw T o r3 Z s' := by
  obtain ⟨Hi, ri, ci, I, h2, h3, h4, h5, h6⟩ := h
  refine ⟨Hi, ri, ci, ?_, by rw [e1]; exact h2, h3, h4, h5, h6⟩
  exact ⟨I.ok, e2.trans I.os, hb, by rw [e1]; exact I.base, by rw [e1]; exact I.loc, by rw [e1]; exact I.cell, I.free, I.freeC, by rw [e1]; exact I.pin, by rw [e1]; exact I.hok, I.len⟩
theorem seg_q (hN : X.N.Nodup) (hT : Turn X.prog X.w X.K tge J fp it tn) (hJ : GivesL X.K r3 o H3 ds J) (hs0 : SlOk X.K r3 o H3 s0 (wipe σ vs)) (ho : tg.own vs = true) (hco : scope.isCoroutine = false) (hPg : ∀ p ∈ Pg, p.1 ∉ fp)
    (hg : PG (genCx X s3 H3 scope C code fp) tge (tg.g X.K)) (he : RE (genCx X s3 H3 scope C code fp) W0 elt f) :
    ∀ (k i : Nat) (s₀ s : Shared), ds.length - i = k → i ≤ ds.length → StG X s3 H3 scope C code fp Pg (wipe σ vs) (tn i) o r3 (fun ci => qL stop tg f s0 (ds.drop i) ci = .ok bF cF) s →
      Seg (model X.prog X.w) X.A.in1.in1 (EndG (StG X s3 H3 scope C code fp Pg (wipe σ vs) · o r3) stop ds bF cF) (ProtG (StG X s3 H3 scope C code fp Pg (wipe σ vs) · o r3) tn stop tg f s0 ds bF cF) (k + 1) s₀
        (.compLoop (.GeneratorExp elt [⟨tge, iter, [], 0⟩] scope pos) 0 (.ref it) .none (gEnv X scope C code))
        ((model X.prog X.w).den (.compLoop (.GeneratorExp elt [⟨tge, iter, [], 0⟩] scope pos) 0 (.ref it) .none (gEnv X scope C code))) [] s := by
  have hA : X.A.in1.in1.over (.compLoop (.GeneratorExp elt [⟨tge, iter, [], 0⟩] scope pos) 0 (.ref it) .none (gEnv X scope C code)) [] = (genCx X s3 H3 scope C code fp).A := over_gen
  have stat : ∀ {pi : List (Addr × Obj)} {σ' : L2.St} {H' : Hp} {s' : Shared}, Inv (genCx X s3 H3 scope C code fp) pi σ' H' s' → (∀ p ∈ pi, p.1 ∉ fp) → (∀ b ∈ fp, H' b = none) → ∀ b ∈ fp, FpOk (genCx X s3 H3 scope C code fp) pi H' b := fun {pi σ' H' s'} I' hpi hn b hb =>
    ⟨hn b hb, (I'.ok.exf b hb).1, I'.ok.exfs b hb, .inl hb, fun x c e => (I'.ok.exf b hb).2 x c e, fun p hp z => hpi p ((List.mem_append.mp hp).elim (fun z => absurd (show p ∈ ([] : List (Addr × Obj)) from z) (by simp)) id) (by rw [z]; exact hb)⟩
  have lat : ∀ {ri : List Addr} {Hi : Hp}, Step r3 H3 ri Hi → Later r3 o H3 ri o Hi := fun st => st.later
  intro k
  induction k with
  | zero =>
    intro i s₀ s hk hi hst
    have hin : i = ds.length := by omega
    subst hin
    obtain ⟨Hi, ri, ci, I, ht, hn, st, hc, hz⟩ := hst
    show Seg _ _ _ _ _ s₀ _ ((compTurn (.GeneratorExp elt [⟨tge, iter, [], 0⟩] scope pos) 0 (.ref it) .none (gEnv X scope C code)).onRaise (leaving (gEnv X scope C code))) [] s
    rw [compTurn_gen, Sem.onRaise_eq_wrap]
    refine seg_bind_wrap (wpAny_standAt ?_)
    refine seg_bind_wrap ?_
    rw [hA]
    have hstop := (hJ ri o Hi ci (lat st) hc ds.length).2 (Nat.le_refl _)
    refine thnF (hT.done (genCx X s3 H3 scope C code fp) rfl rfl rfl rfl ds.length Pg s _ Hi (fun _ _ => False) I (stat I hPg hn) ht hstop) fun r s6 hr => ?_
    obtain ⟨rfl, I6⟩ := hr
    rw [List.drop_length] at hz
    unfold qL at hz
    injection hz with hz1 hz2
    exact seg_end (.ok .next) ⟨rfl, Hi, ri, ci, I6, trivial, hn, st, hc, hz1.symm, hz2.symm⟩
  | succ k ih =>
    intro i s₀ s hk hi hst
    have hlt : i < ds.length := by omega
    obtain ⟨Hi, ri, ci, I, ht, hn, st, hc, hz⟩ := hst
    show Seg _ _ _ _ _ s₀ _ ((compTurn (.GeneratorExp elt [⟨tge, iter, [], 0⟩] scope pos) 0 (.ref it) .none (gEnv X scope C code)).onRaise (leaving (gEnv X scope C code))) [] s
    rw [compTurn_gen, Sem.onRaise_eq_wrap]
    refine seg_bind_wrap (wpAny_standAt ?_)
    refine seg_bind_wrap ?_
    rw [hA]
    have ed : ds[i]? = some ds[i] := List.getElem?_eq_getElem hlt
    obtain ⟨go, yl⟩ := (hJ ri o Hi ci (lat st) hc i).1 _ ed
    rw [List.drop_eq_getElem_cons hlt] at hz
    refine thnF (hT.item (genCx X s3 H3 scope C code fp) rfl rfl rfl rfl i Pg s _ Hi (fun _ _ => False) I (stat I hPg hn) ht go) fun r s6 hr => ?_
    obtain ⟨u, rfl, h6⟩ := hr
    refine seg_bind_wrap ?_
    rw [hA]
    refine thnF h6 fun _ s7 h7 => ?_
    obtain ⟨x, H7, I7, rx, yx, ht7, hn7⟩ := h7
    obtain ⟨k7, hx⟩ := yl x H7 yx
    have st7 : Step ri Hi ri H7 := Step.grow k7
    have hc7 := hc.grow k7
    have I7' := I7.pinned (stat I7 hPg hn7) (hT.obj _ _ ht7)
    unfold qL at hz
    cases es : tg.set ds[i] s0 with
    | none => simp only [es] at hz; cases hz
    | some s1 =>
      simp only [es] at hz
      have hs7 : SlOk X.K ri o H7 s0 (wipe σ vs) := hs0.later ((st.trans st7).later)
      refine seg_bind_wrap ?_
      rw [hA]
      refine thnF (hg.run _ s7 _ H7 x u (fun σ8 H8 => H8 = H7 ∧ SlOk X.K ri o H7 s1 σ8 ∧ wipe σ8 vs = wipe σ vs) I7' rx (Tg.run (vs := vs) (t0 := wipe σ vs) ho hx hs7 (wipe_wipe _ _) es fun t' ht' hw' => ⟨rfl, ht', hw'⟩)) fun _ s8 h8 => ?_
      obtain ⟨σ8, H8, I8, rfl, hs8, hw8⟩ := h8
      refine seg_bind_wrap ?_
      rw [hA]
      refine thnF ((pts_nil (X := genCx X s3 H3 scope C code fp)).run _ s8 σ8 H8 (fun b H9 => b = true ∧ H9 = H8) I8 ⟨rfl, rfl⟩) fun b s9 h9 => ?_
      obtain ⟨H9, I9, rfl, rfl⟩ := h9
      simp only [if_true]
      have hy : ∀ v, yieldOut (gEnv X scope C code) v = yieldValue v := fun v => by
        have e : (gEnv X scope C code).scope.isCoroutine = false := hco
        simp only [yieldOut, e, Bool.false_eq_true, if_false]
      simp only [hy]
      rw [Sem.bind_eq_wrap', Sem.bind_eq_wrap', Sem.wrap_wrap, Sem.wrap_wrap]
      refine seg_wrap ?_
      rw [hA]
      obtain ⟨te, he1, he2⟩ := he
      cases ef : f s1 ci with
      | bad => simp only [ef] at hz; cases hz
      | err x c5 => simp only [ef] at hz; cases hz
      | ok y c5 =>
        cases y with
        | bl b =>
          simp only [ef] at hz
          refine thnF (he1.run _ s9 σ8 H9 (fun y H10 => y = .bl b ∧ ∃ r5, Step ri H9 r5 H10 ∧ Cells X.K r5 o c5 H10) I9 (he2 ri o ci s1 H9 σ8 _ hc7 hs8 (by rw [ef]; exact fun r' H' v st' hc' hv => ⟨hv.bl_inv, r', st', hc'⟩))) fun y s10 h10 => ?_
          obtain ⟨yv, H10, I10, ry, rfl, r5, st10, hc10⟩ := h10
          obtain rfl : y = Value.bool b := ry
          have pin' : ∀ b ∈ fp, ∀ o, s7.heap.get? b = some o → s10.heap.get? b = some o ∧ H10 b = none := fun b hb o e =>
            let z := I10.pin (b, o) (List.mem_append_right _ (List.mem_append_right _ (mem_pinsAt hb e)))
            ⟨z.1, z.2.1⟩
          have I11 : Inv (genCx X s3 H3 scope C code fp) Pg (wipe σ vs) H10 s10 := (I10.unpinned (pins := Pg)).weak (by rw [← hw8, wipe_length]) fun j v e => by
            rw [← hw8] at e
            exact (wipe_some e).1
          have stF : ∀ Z : Cs → Prop, Z c5 → StG X s3 H3 scope C code fp Pg (wipe σ vs) (tn (i + 1)) o r3 Z s10 := fun Z hZ => ⟨H10, r5, c5, I11, hT.keep _ _ _ ht7 fun b hb o e => (pin' b hb o e).1, fun b hb => by
            obtain ⟨o, e, _⟩ := hT.obj _ _ ht7 b hb
            exact (pin' b hb o e).2, (st.trans st7).trans st10, hc10, hZ⟩
          refine seg_at (seg_yield rfl rfl rfl ⟨b, i, rfl, hlt, by omega, stF _ ?_, fun hb s'' e1 e2 e3 => ?_⟩)
          · by_cases hb : b = stop
            · rw [if_pos hb] at hz ⊢
              injection hz with z1 z2
              exact ⟨z1.symm, z2.symm⟩
            · rw [if_neg hb] at hz ⊢
              exact hz
          · rw [if_neg hb] at hz
            exact seg_again rfl (ih (i + 1) s'' s'' (by omega) hlt ((stF _ hz).gens e1 e2 e3))
        | _ => simp only [ef] at hz; cases hz
theorem seg_q0 (hT : Turn X.prog X.w X.K tge J fp it tn) {R : GenEnd} {Y : Protocol} {n : Nat} {s₀ s : Shared} (ht : tn 0 s.heap)
    (loop : Seg (model X.prog X.w) X.A.in1.in1 R Y n s₀ (.compLoop (.GeneratorExp elt [⟨tge, iter, [], 0⟩] scope pos) 0 (.ref it) .none (gEnv X scope C code))
        ((model X.prog X.w).den (.compLoop (.GeneratorExp elt [⟨tge, iter, [], 0⟩] scope pos) 0 (.ref it) .none (gEnv X scope C code))) [] s) :
    Seg (model X.prog X.w) X.A.in1.in1 R Y n s₀ (.compStart (.GeneratorExp elt [⟨tge, iter, [], 0⟩] scope pos) 0 (.ref it) .none (gEnv X scope C code))
        ((model X.prog X.w).den (.compStart (.GeneratorExp elt [⟨tge, iter, [], 0⟩] scope pos) 0 (.ref it) .none (gEnv X scope C code))) [] s := by
  show Seg _ _ _ _ _ s₀ _ ((compStart (.GeneratorExp elt [⟨tge, iter, [], 0⟩] scope pos) 0 (.ref it) .none (gEnv X scope C code)).onRaise (leaving (gEnv X scope C code))) [] s
  unfold compStart
  rw [Sem.onRaise_eq_wrap]
  show Seg _ _ _ _ _ s₀ _ ((ask >>= _).wrap _ _ _ _) [] s
  refine seg_bind_wrap (wpAny_askSetting ?_)
  split
  · exact seg_again rfl loop
  · first
      | exact seg_bind_wrap (wpAny_rule (seg_bind_wrap (wpAny_standAt (seg_bind_wrap (hT.self _ 0 s _ _ ht (seg_again rfl loop))))))
      | (refine seg_bind_wrap (wpAny_rule ?_); show Seg _ _ _ _ _ s₀ _ ((standAt iter.pos >>= _).wrap _ _ _ _) [] s; exact seg_bind_wrap (wpAny_standAt (seg_bind_wrap (hT.self _ 0 s _ _ ht (seg_again rfl loop)))))
theorem StG.grow {T : Heap → Prop} {Z : Cs → Prop} {σw : L2.St} {s s' : Shared} (h : StG X s3 H3 scope C code fp Pg σw T o r3 Z s) (k : ∀ b u, s.heap.get? b = some u → s'.heap.get? b = some u) (e2 : s'.os = s.os) (hb : AllBare s'.gens) : StG X s3 H3 scope C code fp Pg σw (fun _ => True) o r3 Z s' := by
  obtain ⟨Hi, ri, ci, I, h2, h3, h4, h5, h6⟩ := h
  have J := I.kept (t' := s'.toks) k
  refine ⟨Hi, ri, ci, ?_, trivial, h3, h4, h5, h6⟩
  exact ⟨J.ok, e2.trans I.os, hb, J.base, J.loc, J.cell, J.free, J.freeC, J.pin, J.hok, J.len⟩
/-- the generator g (its object at a) ahead of a turn -/
def GSt (X : Cx) (s3 : Shared) (H3 : Hp) (scope : Scope) (C : Addr) (code : Value) (fp : List Addr) (Pg : List (Addr × Obj)) (σw : L2.St) (tn : Nat → Heap → Prop) (o r3 : List Addr) (stop : Bool) (tg : Tg) (f : FE) (s0 : Sl) (ds : List D) (bF : Bool) (cF : Cs) (g : Nat) (n : Nat) (s : Shared) : Prop :=
  ∃ i gs, n = ds.length - i + 1 ∧ i ≤ ds.length ∧ StG X s3 H3 scope C code fp Pg σw (tn i) o r3 (fun ci => qL stop tg f s0 (ds.drop i) ci = .ok bF cF) s ∧ s.gens[g]? = some gs ∧
    ∀ s'' : Shared, s''.heap = s.heap → s''.os = s.os → AllBare s''.gens → gs.Goes (model X.prog X.w) X.A.in1.in1 (EndG (StG X s3 H3 scope C code fp Pg σw · o r3) stop ds bF cF) (ProtG (StG X s3 H3 scope C code fp Pg σw · o r3) tn stop tg f s0 ds bF cF) n (.send .none) s''
theorem next_q {k g n : Nat} {a : Addr} {s : Shared} {σw : L2.St} (hr : Room k X.A) (hgen : ∀ h : Heap, (∀ p ∈ Pg, h.get? p.1 = some p.2) → h.IsGen a g)
    (h : GSt X s3 H3 scope C code fp Pg σw tn o r3 stop tg f s0 ds bF cF g n s) :
    wpAny (model X.prog X.w) X.A.in1 (pyNext (.ref a)) (fun r s1 => match r with
      | none => StG X s3 H3 scope C code fp Pg σw (fun _ => True) o r3 (fun ci => bF = !stop ∧ cF = ci) s1
      | some v => ∃ b, v = .bool b ∧ (b ≠ stop → ∃ m, m < n ∧ GSt X s3 H3 scope C code fp Pg σw tn o r3 stop tg f s0 ds bF cF g m s1) ∧ (b = stop → StG X s3 H3 scope C code fp Pg σw (fun _ => True) o r3 (fun ci => bF = stop ∧ cF = ci) s1)) (fun _ _ => False) s := by
  obtain ⟨i, gs, rfl, hi, hst, hgs, hgo⟩ := h
  obtain ⟨Hi, ri, ci, I, h2, h3, h4, h5, h6⟩ := id hst
  have hg := hgen s.heap fun p hp => (I.pin p (List.mem_append_right _ hp)).1
  have hlt : g < s.gens.size := by
    rcases Nat.lt_or_ge g s.gens.size with h' | h'
    · exact h'
    · rw [Array.getElem?_eq_none h'] at hgs; cases hgs
  refine GenW.wpAny_gsz (Nat.le_refl _) (wpAny_pyNext_genexpQ (A := X.A.in1) (show X.A.in1.handled = none from hr.hd) I.nolimit (show X.A.in1.depth < recursionLimit from hr.depth) hg hgs (hgo _ rfl rfl (L2.allBare_setGen I.bare rfl)) (fun v s₁ gs' hb hv => ?_) (fun s₁ hp h' hk => ?_))
  · intro hsz
    obtain ⟨b, j, rfl, hj, hn, hS, hkap⟩ := hv
    have hsz' : s.gens.size ≤ s₁.gens.size := by
      have e : (s₁.setGen g gs').gens.size = s₁.gens.size := GenW.setGen_size ..
      rw [e] at hsz; exact hsz
    have bare1 : AllBare (s₁.setGen g gs').gens := by
      obtain ⟨_, _, _, I1, _⟩ := id hS
      exact L2.allBare_setGen I1.bare hb
    generalize hm : ds.length - i = m at hkap hn ⊢
    have hn : m = ds.length - (j + 1) + 1 := hn
    refine ⟨b, rfl, fun hbs => ⟨m, by omega, j + 1, gs', by omega, hj, ?_, ?_, fun s'' e1 e2 e3 => hkap hbs s'' e1 e2 e3⟩, fun hbs => ?_⟩
    · have q := hS.gens (s' := s₁.setGen g gs') rfl rfl bare1
      obtain ⟨Hj, rj, cj, Ij, q2, q3, q4, q5, q6⟩ := q
      rw [if_neg hbs] at q6
      exact ⟨Hj, rj, cj, Ij, q2, q3, q4, q5, q6⟩
    · exact setGen_at (Nat.lt_of_lt_of_le hlt hsz')
    · have q := hS.gens (s' := s₁.setGen g gs') rfl rfl bare1
      obtain ⟨Hj, rj, cj, Ij, q2, q3, q4, q5, q6⟩ := q
      rw [if_pos hbs] at q6
      exact ⟨Hj, rj, cj, Ij, trivial, q3, q4, q5, q6⟩
  · intro _
    have hS := hp
    obtain ⟨_, _, _, I1, _⟩ := id hS
    exact hS.grow hk rfl (L2.allBare_setGen I1.bare rfl)
end
end RL

set_option Elab.async false
set_option linter.all false
set_option maxRecDepth 100000
set_option maxHeartbeats 4000000
namespace RL
open PySem PySem.Spec PyProof.Rows L2
/-- what the call of any / all on a generator asks -/
def QCall (prog : Program) (w : World) (nm : String) (stop : Bool) : Prop := ∀ (A : Around) (a : Addr) (g : Nat) (s : Shared) (St : Nat → Shared → Prop) (n : Nat) (Q : Value → Shared → Prop) (E : Value → Shared → Prop) (End : Bool → Shared → Prop),
  s.heap.IsGen a g → St n s → (∀ n s, St n s → wpAny (model prog w) A.in1 (pyNext (.ref a)) (fun r s1 => match r with
      | none => End (!stop) s1
      | some v => ∃ b, v = .bool b ∧ (b ≠ stop → ∃ m, m < n ∧ St m s1) ∧ (b = stop → End stop s1)) (fun _ _ => False) s) → (∀ b s1, End b s1 → Q (.bool b) s1) →
  wpAny (model prog w) A (call (.builtin nm) [.ref a]) Q E s
theorem qcall_all {prog : Program} {w : World} : QCall prog w "all" false := fun A a g s St n Q E End hg hs hstep hQ => by
  refine call_function_tree PySem.F.kind_all PySem.F.plain_all PySem.F.entry_all (PySem.F.args_all1 _) ?_
  unfold Builtin.«all»
  refine wpAny_bind (m := oneArg "all" _) (wpAny_pure ?_)
  refine wpAny_bind (wpAny_pyIter_gen hg ?_)
  refine wpAny_pure ⟨plainId_quiet PySem.F.plain_all_loop _, loop_all St (fun n s h => wpAny_mono (hstep n s h) (fun r s1 hr => ?_) fun _ _ z => z) n s hs⟩
  cases r with
  | none => exact hQ _ _ hr
  | some v =>
    obtain ⟨b, e, h1, h2⟩ := hr
    exact ⟨b, e, fun hb => h1 (by rw [hb]; decide), fun hb => hQ _ _ (h2 hb)⟩
theorem qcall_any {prog : Program} {w : World} : QCall prog w "any" true := fun A a g s St n Q E End hg hs hstep hQ => by
  refine call_function_tree PySem.F.kind_any PySem.F.plain_any PySem.F.entry_any (PySem.F.args_any1 _) ?_
  unfold Builtin.«any»
  refine wpAny_bind (m := oneArg "any" _) (wpAny_pure ?_)
  refine wpAny_bind (wpAny_pyIter_gen hg ?_)
  refine wpAny_pure ⟨plainId_quiet PySem.F.plain_any_loop _, loop_any St (fun n s h => wpAny_mono (hstep n s h) (fun r s1 hr => ?_) fun _ _ z => z) n s hs⟩
  cases r with
  | none => exact hQ _ _ hr
  | some v =>
    obtain ⟨b, e, h1, h2⟩ := hr
    exact ⟨b, e, fun hb => h1 (by rw [hb]; decide), fun hb => hQ _ _ (h2 hb)⟩
section
variable {X : Cx} {W : WX} {stop : Bool} {tg : Tg} {f : FE} {fa : FA} {elt tge iter : Expr} {scope : Scope} {own : List (Str × Nat)} {p pos gpos : Pos} {nm : Str} {id : String} {n k : Nat} {P cc : Addr} {q : Str}
theorem re_q (hcall : QCall X.prog X.w id stop) (hr : Room k X.A) (hc : X.calm = true) (hN : X.N.Nodup) (hg : Gl X nm) (hm : X.mg nm = none) (hv : bootBuiltins nm = some (.builtin id)) (hi : RI X W tge iter fa) (ok : GenOk X.N X.env.scope scope own) (ho : tg.own (own.map (·.2)) = true)
    (TB : LamX.TabB X.base X.mg cc P) (hcode : X.env.code = .ref cc) (hqn : X.env.qual ++ "<genexpr>" = q)
    (hgt : ∀ (s : Shared) (H : Hp) (C : Addr) (code : Value) (fp : List Addr), PG (genCx X s H scope C code fp) tge (tg.g X.K)) (he : ∀ (s : Shared) (H : Hp) (C : Addr) (code : Value) (fp : List Addr), RE (genCx X s H scope C code fp) W0 elt f)
    (hs : ∀ v, genFold iter X.env v = pure v := by intro _; rfl) (hn : nm ≠ "__name__" := by decide) (hdb : (nm == ("__debug__" : Str)) = false := by decide)
    (he0 : starEach [.GeneratorExp elt [⟨tge, iter, [], 0⟩] scope gpos] X.env = (false, eval (.GeneratorExp elt [⟨tge, iter, [], 0⟩] scope gpos) X.env) :: starEach [] X.env := by rfl) :
    RE X W (.Call (.Name nm p) [.GeneratorExp elt [⟨tge, iter, [], 0⟩] scope gpos] [] pos) (eQ stop n P q fa tg f (own.map (·.2))) := by
  refine ⟨tOfE X.K W (eQ stop n P q fa tg f (own.map (·.2))), ⟨fun pins s σ H Q I h => ?_⟩, snd_ofE⟩
  obtain ⟨r, o, c, sl, hcl, hsl, hq⟩ := h
  obtain ⟨wi, h1, h2⟩ := hi
  refine wpAny_Call_Name_kw (ld_blt I hg hm hv ?_ hn hdb)
  refine PyProof.Rows.callWith_builtin1 ?_ he0 (by rfl)
  rw [he0]
  show wpAny _ _ (spliced ((false, eval (.GeneratorExp elt [⟨tge, iter, [], 0⟩] scope gpos) X.env) :: backTo pos (starEach [] X.env))) _ _ s
  refine Calls.spliced_cons ?_
  refine wpAny_GeneratorExp_make ok.co (closure_ok (ok.has I.ok)) ok.nocell ok.dot ok.blk.kind hr.depth ?_ hs
  refine thn (h1.run pins s σ H (fun J H1 => ∃ ds c1 r1, Step r H r1 H1 ∧ Cells X.K r1 o c1 H1 ∧ GivesL X.K r1 o H1 ds J ∧ OkG X.K W (Is X.K) r1 o H1 σ Q (if hasTab c1 n P q = true then (match qL stop tg f (wipeD sl (own.map (·.2))) ds c1 with | .ok b c2 => .ok (.bl b) c2 | _ => .bad) else .bad)) I
    (h2 r o c sl H σ _ hcl hsl (ok_bind hq fun ds c1 r1 H1 J st hc1 hJ h1 => ⟨ds, c1, r1, st, hc1, hJ, h1⟩))) fun xv s1 hx => thn hx fun itv s2 hx2 => ?_
  obtain ⟨it, fp, tn, J, H2, rfl, I2, T, st2, f2, ds, c1, r1, stp, hc1, hJ, hok⟩ := hx2
  split at hok
  case isFalse => exact hok.elim
  rename_i htab
  have htab := hasTab_at htab
  cases eqq : qL stop tg f (wipeD sl (own.map (·.2))) ds c1 with
  | err x c2 => simp only [eqq] at hok; exact hok.elim
  | bad => simp only [eqq] at hok; exact hok.elim
  | ok bF cF =>
  simp only [eqq] at hok
  obtain ⟨a0, ha0, rfl, ps, hP, htr, hco⟩ := hc1.get htab
  have lim2 := I2.nolimit
  have cd : PySem.W.CodeHd s2.heap cc a0 := TB.code.keeps I2.bk
  have hPs : s2.heap.get? a0 = some { cls := .none, data := .fields ps } := I2.hok a0 _ hP
  refine ⟨lim2, ?_⟩
  -- behind the code object
  have cont : ∀ (code : Value) (s3 : Shared) (H3 : Hp), Inv X pins σ H3 s3 → (∀ b u, b ≠ a0 → s2.heap.get? b = some u → s3.heap.get? b = some u) → Step r1 H2 r1 H3 → Cells X.K r1 o c1 H3 →
      (∀ b ∈ fp, H3 b = none) →
      wpAny (model X.prog X.w) X.A (builtinsFor X.env.globals X.env.builtins) (fun bi s₄ =>
        ∀ h', h'.Ns s₄.heap.objs.size (fun y => if y = ".0" then some (.ref it) else none) → Heap.SameBut s₄.heap.objs.size (s₄.heap.push { cls := .type "frame", data := .dict #[] }) h' →
          wpAny (model X.prog X.w) X.A (spliced (backTo pos (starEach [] X.env))) (fun vs s5 => wpAny (model X.prog X.w) X.A (call (.builtin id) (.ref h'.objs.size :: vs)) (EP X pins σ Q) X.xe s5) X.xe { s₄ with
            gens := s₄.gens.push (.fresh (.compStart (.GeneratorExp elt [⟨tge, iter, [], 0⟩] scope gpos) 0 (.ref it) .none (genEnv scope (cloFrom X.env.cells scope.names []) s₄.heap.objs.size code bi X.env))),
            toks := s₄.toks + 1 + 1 + 1,
            heap := h'.push { cls := .type "generator", data := .fields #[.int s₄.gens.size 0, .str "<genexpr>" (s₄.toks + 1), .str (X.env.qual ++ "<genexpr>") (s₄.toks + 1 + 1)] } }) X.xe s3 := by
    intro code s3 H3 I3 kp3 st3 hc3 hn3
    obtain ⟨bm, ob, e1, e2, e3, e4, e5, e6, e7, e8⟩ := TB.bm
    refine wpAny_builtinsFor (m := X.mg) (by rw [I3.ok.glob]; exact I3.mod.glob.keeps I3.bk) e1 e2 (I3.bk _ _ e5) e6 e7 e8 ?_
    intro h' hns hsb
    refine Calls.spliced_nil ?_
    have hsz : h'.objs.size = s3.heap.objs.size + 1 := by rw [hsb.1, Heap.size_push]
    have kp' : ∀ b o, s3.heap.get? b = some o → h'.get? b = some o := fun b o e => hsb.extBut b o (Nat.ne_of_lt (Heap.lt_size e)) (Heap.get?_push_of_some _ e)
    have fsz : ∀ b ∈ fp, b < s3.heap.objs.size := fun b hb => by
      obtain ⟨ob, e, _⟩ := T.obj _ _ st2 b hb
      exact Heap.lt_size (kp3 b ob (fun z => by have := (f2 b hb).1; rw [z, hP] at this; cases this) e)
    have f3 : ∀ b ∈ fp, FpOk X pins H3 b ∧ b < s3.heap.objs.size := fun b hb => ⟨⟨hn3 b hb, (f2 b hb).2⟩, fsz b hb⟩
    have st3n : tn 0 s3.heap := T.keep _ _ _ st2 fun b hb ob e => kp3 b ob (fun z => by have := (f2 b hb).1; rw [z, hP] at this; cases this) e
    generalize hgo : ({ cls := .type "generator", data := .fields #[.int s3.gens.size 0, .str "<genexpr>" (s3.toks + 1), .str (X.env.qual ++ "<genexpr>") (s3.toks + 1 + 1)] } : Obj) = go
    have geta : (h'.push go).get? h'.objs.size = some go := Heap.get?_push_size _ (by rw [← hgo]; rfl)
    generalize hs5 : ({ s3 with gens := s3.gens.push (.fresh (.compStart (.GeneratorExp elt [⟨tge, iter, [], 0⟩] scope gpos) 0 (.ref it) .none (genEnv scope (cloFrom X.env.cells scope.names []) s3.heap.objs.size code builtinsNs X.env))), toks := s3.toks + 1 + 1 + 1, heap := h'.push go } : Shared) = s5
    have h5h : s5.heap = h'.push go := by rw [← hs5]
    have h5o : s5.os = s3.os := by rw [← hs5]
    have h5g : s5.gens = s3.gens.push (.fresh (.compStart (.GeneratorExp elt [⟨tge, iter, [], 0⟩] scope gpos) 0 (.ref it) .none (gEnv X scope s3.heap.objs.size code))) := by rw [← hs5]
    have bare5 : AllBare s5.gens := by rw [h5g]; exact I3.bare.push rfl
    have kp5 : ∀ b o, s3.heap.get? b = some o → s5.heap.get? b = some o := fun b o e => by rw [h5h]; exact Heap.get?_push_of_some _ (kp' b o e)
    have I5 : Inv (genCx X s3 H3 scope s3.heap.objs.size code fp) [(h'.objs.size, go)] (wipe σ (own.map (·.2))) H3 s5 := by
      refine gen_start (m := fun y => if y = ".0" then some (.ref it) else none) I3 ok hN hr.hd rfl f3 h5o bare5 kp5 (by rw [h5h]; exact hns.push _) fun p hp => ?_
      have e : p = (h'.objs.size, go) := by simpa using hp
      subst e
      refine ⟨by rw [h5h]; exact geta, I3.hok.fresh (by show s3.heap.objs.size ≤ h'.objs.size; omega), by show h'.objs.size ≠ s3.heap.objs.size; omega, fun z => ?_, fun v => by rw [← hgo]; exact fun z => by cases z⟩
      rcases List.mem_cons.mp (I3.stkSub _ z) with e | e
      · have := I3.lt
        rw [← e] at this
        have h2 : s3.heap.objs.size ≤ h'.objs.size := by omega
        exact absurd (Nat.lt_of_lt_of_le this h2) (Nat.lt_irrefl _)
      · exact I3.nofs (by omega) e
    have hgen : ∀ h : Heap, (∀ p ∈ [(h'.objs.size, go)], h.get? p.1 = some p.2) → h.IsGen h'.objs.size s3.gens.size := fun h hp => by
      have e := hp _ (List.mem_singleton.mpr rfl)
      rw [← hgo] at e
      exact ⟨_, _, _, e, rfl, rfl, rfl⟩
    have hs3' : SlOk X.K r1 o H3 (wipeD sl (own.map (·.2))) (wipe σ (own.map (·.2))) := ((hsl.mono stp).mono st3).wipe _
    have hJ3 : GivesL X.K r1 o H3 ds J := fun r' o' H' c' l hc i => hJ r' o' H' c' (st3.later.trans l) hc i
    have hPg : ∀ p ∈ [(h'.objs.size, go)], p.1 ∉ fp := fun p hp hb => by
      have e : p = (h'.objs.size, go) := by simpa using hp
      subst e
      have := fsz _ hb
      have h2 : s3.heap.objs.size ≤ h'.objs.size := by omega
      exact absurd (Nat.lt_of_lt_of_le this h2) (Nat.lt_irrefl _)
    have S0 : ∀ s'' : Shared, s''.heap = s5.heap → s''.os = s5.os → AllBare s''.gens → StG X s3 H3 scope s3.heap.objs.size code fp [(h'.objs.size, go)] (wipe σ (own.map (·.2))) (tn 0) o r1 (fun ci => qL stop tg f (wipeD sl (own.map (·.2))) (ds.drop 0) ci = .ok bF cF) s'' := fun s'' e1 e2 e3 =>
      StG.gens ⟨H3, r1, c1, I5, by rw [h5h]; exact T.keep _ _ _ st3n fun b _ ob e => Heap.get?_push_of_some _ (kp' b ob e), hn3, Step.refl, hc3, by rw [List.drop_zero]; exact eqq⟩ e1 e2 e3
    refine hcall X.A h'.objs.size s3.gens.size s5 (GSt X s3 H3 scope s3.heap.objs.size code fp [(h'.objs.size, go)] (wipe σ (own.map (·.2))) tn o r1 stop tg f (wipeD sl (own.map (·.2))) ds bF cF s3.gens.size) (ds.length + 1) _ _
      (fun b s1 => StG X s3 H3 scope s3.heap.objs.size code fp [(h'.objs.size, go)] (wipe σ (own.map (·.2))) (fun _ => True) o r1 (fun ci => bF = b ∧ cF = ci) s1) (hgen _ fun p hp => by rw [List.mem_singleton.mp hp, h5h]; exact geta)
      ⟨0, .fresh (.compStart (.GeneratorExp elt [⟨tge, iter, [], 0⟩] scope gpos) 0 (.ref it) .none (gEnv X scope s3.heap.objs.size code)), by simp, Nat.zero_le _, S0 s5 rfl rfl bare5, by rw [h5g]; exact Array.getElem?_push_size .., fun s'' e1 e2 e3 => ⟨rfl, ?_⟩⟩ (fun m s h => next_q hr hgen h) fun b s1 hE => ?_
    · have q := S0 s'' e1 e2 e3
      refine seg_q0 T (by obtain ⟨_, _, _, _, z, _⟩ := q; exact z) ?_
      exact seg_q hN T hJ3 hs3' ho ok.co hPg (hgt ..) (he ..) ds.length 0 s'' s'' (Nat.sub_zero _) (Nat.zero_le _) q
    · obtain ⟨Hi, ri, ci, I6, _, _, st6, hc6, rfl, rfl⟩ := hE
      have I7 : Inv X pins σ Hi s1 := I3.call' (ch := fp) I6.os I6.base I6.hok I6.bare fun b hb => ⟨(f3 b hb).1.2.2.2.1, (f3 b hb).1.2.1, (f3 b hb).1.2.2.2.2.1, (f3 b hb).1.2.2.2.2.2⟩
      exact ⟨.bl bF, Hi, I7, rfl, hok ri Hi (.bl bF) (st3.trans st6) hc6 .bl⟩
  cases hf : codeAmong gpos ps.toList with
  | none =>
    refine wpAny_genexprCodeX hcode (cd.code hPs htr) (cd.tab hPs) hf fun c' h' tk hx hge hlt hco' hrec htab' _ => ?_
    obtain ⟨o1, vs1, f1, tf, fl, tgx, inF, tx, tt, op, _, _, _, _, _, _, _, _, _, htr', _⟩ := hco'
    obtain ⟨cn, oc, vs, tq, e2, hoc, hd, hvv⟩ := hrec
    cases e2
    have hn : H2 c' = none := I2.hok.fresh hge
    have I3 := LamX.inv_table (t' := tk) (more := #[rawInt gpos.line, rawInt gpos.col, .ref c']) (h' := h') (q := q) I2 hP hx htab'.2 hge ⟨oc, vs, tq, hoc, hd, by rw [← hqn]; exact hvv⟩
    have eL : (ps ++ #[rawInt gpos.line, rawInt gpos.col, .ref c']).toList = ps.toList ++ [rawInt gpos.line, rawInt gpos.col, .ref c'] := by simp
    obtain ⟨hc3, st3⟩ := hc1.tabled (ps' := ps ++ #[rawInt gpos.line, rawInt gpos.col, .ref c']) (cn := c') htab hP hn htr' (fun pos' cv hcv => by rw [eL] at hcv; exact LamX.among_app _ htr hcv)
    exact cont _ _ _ I3 hx st3 hc3 fun b hb => by
      have z := (f2 b hb).1
      have hne : b ≠ c' := fun e => by
        obtain ⟨ob, eb, _⟩ := T.obj _ _ st2 b hb
        have := Heap.lt_size eb
        rw [e] at this
        exact absurd (Nat.lt_of_lt_of_le this hge) (Nat.lt_irrefl _)
      rw [upd_ne hne, upd_ne (fun e => by rw [e, hP] at z; cases z)]
      exact z
  | some cv =>
    refine wpAny_genexprCode_hit hcode (cd.code hPs htr) hf ?_
    exact cont cv s2 H2 I2 (fun b u _ e => e) Step.refl hc1 fun b hb => (f2 b hb).1
end
end RL

set_option Elab.async false
set_option linter.all false
set_option maxRecDepth 100000
set_option maxHeartbeats 4000000
namespace PySem
namespace OwnX
open PySem.W PySem.Calls PyProof.Rows PySem.HandSPX
/-! ### class C(..ValueError): def __init__(self, f): super().__init__(f'pre{f}'); self.f = f -/
def oA (fn : Str) (p1 p2 : Pos) : Arguments := { posonlyargs := [], args := [{ arg := "self", annotation := none, pos := p1 }, { arg := fn, annotation := none, pos := p2 }], vararg := none, kwonlyargs := [], kw_defaults := [], kwarg := none, defaults := [] }
def oB (fn pre : Str) (j : Nat) (q1 q2 q3 q4 q5 q6 q7 q8 q9 r1 r2 r3 r4 : Pos) : List Stmt :=
  [.Expr (.Call (.Attribute (.Call (.Name "super" q1) [] [] q2) "__init__" q3) [.JoinedStr [.Constant (.str pre) j q4, .FormattedValue (.Name fn q5) (-1) none q6] q7] [] q8) q9,
   .Assign [.Attribute (.Name "self" r1) fn r2] (.Name fn r3) r4]
def oS (fn : Str) : Scope := { kind := .function, names := [(PySem.Str.ofString "self", .local), (fn, .local), (PySem.Str.ofString "__class__", .free), (PySem.Str.ofString "super", .globalImplicit)], isGenerator := false, isCoroutine := false, more := [] }
def EvM (o : Expr) (name : Str) (q3 q8 : Pos) (args : List Expr) : Prop := ∃ pl : Env → Sem Bool, ∀ env, eval (.Call (.Attribute o name q3) args [] q8) env = (do
      let ov ← attributeBase o name env (eval o env)
      standAt q3.atName
      let (f, first) ← holding [ov] (getMethod ov name (pl env))
      callWith q8 f first (backTo q8 (starEach args env)) [])
theorem evm_test : EvM (.Call (.Name "super" ⟨7, 8, 7, 13⟩) [] [] ⟨7, 8, 7, 15⟩) "__init__" ⟨7, 8, 7, 24⟩ ⟨7, 8, 7, 49⟩ [.JoinedStr [.Constant (.str "x") 0 ⟨7, 8, 7, 24⟩, .FormattedValue (.Name "name" ⟨7, 8, 7, 24⟩) (-1) none ⟨7, 8, 7, 24⟩] ⟨7, 8, 7, 24⟩] := ⟨_, fun _ => rfl⟩
/-- what the written part says -/
structure OwnTxt (prog : Program) (K : Frag) (mg : Str → Option Value) (base : Heap) (cn fn pre : Str) (C fI cc cda : Addr) : Prop where
  gC : mg cn = some (.ref C)
  T : L2.OexC K C
  no : findIn K (.ref C) fn = some none
  iC : findIn K (.ref C) "__init__" = some (some (.ref fI))
  tI : typeIn K (.ref fI) = some (.type "function")
  xf : L2.XfC K C
  fnn : ∃ (oc : Value) (od : Option Addr) (doc pm : Value) (an : Option Addr) (ct : Value) (osl : Array (Option Value)) (j : Nat) (p1 p2 q1 q2 q3 q4 q5 q6 q7 q8 q9 r1 r2 r3 r4 : Pos),
    K.lookup fI = some ⟨oc, od, .func (ksFn "__init__" (cn ++ ".__init__") (oA fn p1 p2) (oB fn pre j q1 q2 q3 q4 q5 q6 q7 q8 q9 r1 r2 r3 r4) (oS fn) .none .none doc pm an (.ref cda) ct cc), osl⟩ ∧
    EvM (.Call (.Name "super" q1) [] [] q2) "__init__" q3 q8 [.JoinedStr [.Constant (.str pre) j q4, .FormattedValue (.Name fn q5) (-1) none q6] q7]
  cd : codeIn K (.ref cda) (cn ++ ".__init__") = true
  cell : ∃ cl cld csl, K.lookup cc = some ⟨cl, cld, .cell (some (.ref C)), csl⟩
  code : ∃ ccl cdd vs ccs file tf, K.lookup cda = some ⟨ccl, cdd, .fields vs, ccs⟩ ∧ vs[2]? = some (.str file tf) ∧ ((prog.main.file : Str) == file) = true
  sup : ks_superIn K C C "__init__" = some (some (.builtin "ValueError.__init__"))
  sub : subIn K (.ref C) (.type "ValueError") = some true
  self : mroIn K C (.ref C) = some true
  nsup : mg "super" = none
  any : nsIn K cStatics "thirdparty.any" = some none
  top : (prog.main.scope.names.lookup ("super" : Str)).isSome = false
/-- what __init__ leaves of a fresh exception at x -/
structure InitEnd (h h' : Heap) (x C dx t1 : Addr) (fn : Str) (v : Value) : Prop where
  keep : ∀ b o, b ≠ x → h.get? b = some o → h'.get? b = some o
  obj : h'.get? x = some { cls := .ref C, dict := some dx, data := .fields #[.ref t1, .none, .none, .none, .bool false, .none] }
  dbig : h.objs.size ≤ dx
  dne : dx ≠ x
  ns : h'.Ns1 dx (fun y => if y = fn then some v else none)
theorem boot_super : bootBuiltins "super" = some (.type "super") := by first | rfl | kernel_rfl | decide +kernel
section
variable {prog : Program} {w : World} {A : Around} {E : Value → Shared → Prop} {h : Heap} {g : Array GenState} {d : Drawn} {t : Nat} {os : OsState}
variable {nm q : Str} {C N : Addr} {bs bm : List Value} {hdct : Bool} {sn : List Str} {sub : List Value} {ab : Bool} {col : Option Bool} {dd : Option Addr} {k0 k1 k2 k3 k5 : Option Value}
theorem call_mw {u e t0 : Addr} {rest : List Value} {Q : Value → Shared → Prop}
    (hC : h.get? C = some (excClassObj nm q C N bs bm hdct sn sub ab col dd k0 k1 k2 k3 k5 "ValueError.__new__")) (he : h.get? e = some (excO C t0)) (hu : h.get? u = some (kxs_mw "ValueError.__init__" e)) (hrest : rest.length ≤ sizeLine)
    (hq : ∀ h' t1, (∀ b o, b ≠ e → h.get? b = some o → h'.get? b = some o) → h'.get? e = some (excO C t1) → Q .none ⟨h', g, d, t, os⟩) :
    wpAny (model prog w) A (call (.ref u) rest) Q E ⟨h, g, d, t, os⟩ := by
  refine wpAny_call (codeAny_of_tree ?_)
  show wpAny _ A.in1 (callAny (.ref u) ⟨rest, []⟩) _ _ _
  simp only [callAny]
  refine wpAny_bind (wpAny_load hu ?_)
  simp only [kxs_mw, show (Value.type "method-wrapper" == Value.type "method" || Value.type "method-wrapper" == Value.type "builtin_function_or_method" || Value.type "method-wrapper" == Value.type "method-wrapper") = true by decide, if_true]
  refine KFB.if_so (by decide) ?_
  refine wpAny_bind (check_bound_init F.excBase_ValueError.toExcCallFacts hC he rfl ?_)
  refine wpAny_bind (wpAny_pure (wpAny_pure ?_))
  refine ⟨plainId_quiet F.excBase_ValueError.init.plain _, codeAny_builtin F.excBase_ValueError.initEntry ?_⟩
  rw [Around.under_plainId F.excBase_ValueError.init.plain _]
  wp_walk
  refine hq _ h.objs.size (fun b o hb ho => ?_) ?_
  · rw [Heap.get?_update_other _ _ (Ne.symm hb)]
    exact Heap.get?_push_of_some _ ho
  · rw [Heap.get?_update_self _ (Heap.get?_push_of_some _ he) rfl]
    rfl
end
section
variable {prog : Program} {w : World} {A : Around} {R : Result → Shared → Prop} {s : Shared} {K : Frag} {mg : Str → Option Value} {base : Heap} {cn fn pre : Str} {C fI cc cda : Addr}
theorem own_init (T : OwnTxt prog K mg base cn fn pre C fI cc cda) (M : L2.Mod K mg base) (hbase : ∀ b o, base.get? b = some o → s.heap.get? b = some o) {x t0 : Addr} {z : Str} {tz : Tok} (hfn : (fn == ("__debug__" : Str)) = false) (l1 : (oS fn).names.lookup ("super" : Str) = some .globalImplicit) (l2 : (oS fn).names.lookup ("__class__" : Str) = some .free) (l3 : (oS fn).names.lookup ("self" : Str) = some .local) (l4 : (oS fn).names.lookup fn = some .local)
    (m1 : ∀ a b : Value, ([(("self" : Str), a), (fn, b)] : List (Str × Value)).reverse.lookup ("self" : Str) = some a) (m2 : ∀ a b : Value, ([(("self" : Str), a), (fn, b)] : List (Str × Value)).reverse.lookup fn = some b)
    (hbd : ∀ (dV kV doc pm ct : Value) (an : Option Addr) (p1 p2 : Pos) (bd : List Stmt) (a b : Value), bindArgs (ksFn "__init__" (cn ++ ".__init__") (oA fn p1 p2) bd (oS fn) .none .none doc pm an (.ref cda) ct cc) ⟨[a, b], []⟩ = pure [(("self" : Str), a), (fn, b)]) (hz : z.length ≤ 100000) (hpre : pre.length ≤ 1000)
    (hx : s.heap.get? x = some (excO C t0)) (hnx : K.lookup x = none) (hroom : A.depth < recursionLimit)
    (hq : ∀ h' tk dx t1, InitEnd s.heap h' x C dx t1 fn (.str z tz) → R (.ok (.ret .none)) { s with heap := h', toks := tk }) :
    codeAny (model prog w) A (.call (.ref fI) ⟨[.ref x, .str z tz], []⟩) R s := by
  obtain ⟨oc, od, doc, pm, an, ct, osl, j, p1, p2, q1, q2, q3, q4, q5, q6, q7, q8, q9, r1, r2, r3, r4, ho, pl, hev⟩ := T.fnn
  obtain ⟨nm, q, N, bs, bm, sn, sub, ab, col, dd, k0, k1, k2', k3', k5, hC, hbm⟩ := T.T.cls
  obtain ⟨ccl, cdd, vs, ccs, file, tf, hcode, hvs, hfile⟩ := T.code
  obtain ⟨cl, cld, csl, hcell⟩ := T.cell
  obtain ⟨hp, g, d, tks, os⟩ := s
  have hcl : clsIn K C = some { name := nm, bases := bs, mro := .ref C :: bm, ns := N, qualname := q, hasDict := true, slotNames := sn, subclasses := sub, abstract := ab, collection := col, hasDel := false } := by unfold clsIn; rw [hC] <;> rfl
  have X : K.In hp := M.kin.keeps hbase
  have hlim := M.nolimit.keeps hbase
  refine ks_codeAny_call_defAt (binds := [(("self" : Str), .ref x), (fn, .str z tz)]) hroom (X _ _ ho) rfl hlim (codeRec_of X T.cd) rfl ?_ ?_ ?_ (fun h₁ hn k => ?_) rfl rfl rfl
  · exact BindsTo.of_eq (hbd .none .none doc pm ct an p1 p2 _ _ _)
  · intro y hy
    simp only [ksFn, fnX, oS, List.mem_cons, List.not_mem_nil, or_false] at hy
    rcases hy with rfl | rfl | rfl | rfl <;> exact fun e => by cases e
  · intro y hy
    rcases List.mem_cons.mp hy with rfl | hy
    · exact l3
    · rcases List.mem_cons.mp hy with rfl | hy
      · exact l4
      · cases hy
  · have X1 : K.In h₁ := X.keeps k
    have b1 : ∀ b o, base.get? b = some o → h₁.get? b = some o := fun b o e => k b o (hbase b o e)
    have hx1 := k _ _ hx
    have hlt := Heap.lt_size hx
    refine ks_wpAt_execs_cons (ks_wpAt_Expr_any (ks_wpAt_MethodCall (ks_wpAt_super_base l1 l2 (by decide) rfl (X1 _ _ ho) rfl rfl rfl (X1 _ _ hcode) rfl hvs hfile T.top ?_) (hev _)))
    obtain ⟨mb, hmb, hbt⟩ := M.blt
    refine ks_loadName_global rfl l1 (loadGlobal_builtin (M.glob.keeps b1) T.nsup (hmb.keeps b1) ((hbt _ (by decide)).trans boot_super) ⟨rfl, ?_⟩)
    refine wpAny_loadName_free rfl l2 rfl ⟨_, X1 _ _ hcell, rfl⟩ ?_
    refine wpAny_loadName_local rfl l3 hn (m1 _ _) ?_
    refine ks_wpAny_isType_cls (X1 _ _ hC) rfl ⟨rfl, ?_⟩
    have I1 : InstAt h₁ x (excO C t0) C none := ⟨hx1, rfl, rfl, trivial⟩
    refine ks_wpAny_call_super (X1 _ _ hC) rfl hx1 rfl (fun c e => by cases e) (looks_mroIn X1 T.self) (fun h2 e2 k2 => ?_)
    have X2 : K.In h2 := X1.keeps k2
    have I2 : InstAt h2 x (excO C t0) C none := ⟨k2 _ _ hx1, rfl, rfl, trivial⟩
    have hsup : alongIn K ("__init__" : Str) (((Value.ref C :: bm).dropWhile (· != Value.ref C)).drop 1) = some (some (.builtin "ValueError.__init__")) := by
      have z := T.sup
      unfold ks_superIn at z
      rw [hcl] at z
      exact z
    refine kxs_getMethod kxs_ValueError e2 (looks_opaque X2 T.any) (l₀ := .ref C :: bm) (fun A Q E s k q => wpAny_bind ((looks_clsIn X2 hcl) A _ E s k (wpAny_pure q))) rfl X2 hsup (I2.type.andThen (looks_subIn X2 T.sub)) (ks_ne X2 I2 hcl) (by decide) ?_
    have hu : (h2.push (kxs_mw "ValueError.__init__" x)).get? h2.objs.size = some (kxs_mw "ValueError.__init__" x) := Heap.get?_push_size _ rfl
    have k3 : ∀ b o, h₁.get? b = some o → (h2.push (kxs_mw "ValueError.__init__" x)).get? b = some o := fun b o e => Heap.get?_push_of_some _ (k2 b o e)
    show wpAny _ _ (callWith q8 (.ref h2.objs.size) [] ((false, eval (.JoinedStr [.Constant (.str pre) j q4, .FormattedValue (.Name fn q5) (-1) none q6] q7) _) :: []) []) _ _ _
    refine kxs_callWith (i := "ValueError.__init__") (x := x) rfl (evalArgs_plain (spliced_cons ?_))
    refine wpAny_JoinedStr ?_
    show wpAny _ _ (eval (.Constant (.str pre) j q4) _) _ _ _
    have sl : sizeLine = 16777216 := sizeLine_eq
    refine Constant_str ⟨pre, _, rfl, ?_, ?_⟩
    · show (Str.empty ++ pre).length ≤ sizeLine
      have : (Str.empty ++ pre).length = 0 + pre.length := Str.length_append ..
      omega
    have hn3 : (h2.push (kxs_mw "ValueError.__init__" x)).Ns hp.objs.size (fun y => ([(("self" : Str), Value.ref x), (fn, Value.str z tz)] : List (Str × Value)).reverse.lookup y) := hn.keeps k3
    show wpAny _ _ (eval (.FormattedValue (.Name fn q5) (-1) none q6) _) _ _ _
    have e1 : (Str.empty ++ pre).length = 0 + pre.length := Str.length_append ..
    have e2 : ((Str.empty ++ pre) ++ z).length = (Str.empty ++ pre).length + z.length := Str.length_append ..
    have hL : hp.objs.size ≠ x := Nat.ne_of_gt (Heap.lt_size hx)
    refine wpAny_FormattedValue_plain (wpAny_Name (wpAny_loadName_local rfl l4 hn3 (m2 _ _) ?_) hfn)
    refine wpAny_formatField_str ?_ ?_ (by omega)
    all_goals
      refine ⟨z, _, rfl, by omega, by omega, spliced_nil ⟨hu, ?_⟩⟩
      refine call_mw (nm := nm) (q := q) (N := N) (bs := bs) (bm := bm) (hdct := true) (sn := sn) (sub := sub) (ab := ab) (col := col) (dd := dd) (k0 := k0) (k1 := k1) (k2 := k2') (k3 := k3') (k5 := k5) (Heap.get?_push_of_some _ (X2 _ _ hC)) (k3 _ _ hx1) hu (by show 1 ≤ sizeLine; omega) fun h4 t1 k4 hx4 => ?_
      have X4 : K.In h4 := fun a o e => k4 a o (fun z => by rw [z, hnx] at e; cases e) (k3 a o (X1 a o e))
      have hn4 : h4.Ns hp.objs.size (fun y => ([(("self" : Str), Value.ref x), (fn, Value.str z tz)] : List (Str × Value)).reverse.lookup y) := hn3.at' fun o e => k4 _ o hL e
      show wpAt _ _ _ (execs _ _) _ _ _
      refine ks_wpAt_execs_cons (ks_wpAt_Assign_Attr (wpAt_of_wpAny (wpAny_Name (wpAny_loadName_local rfl l4 hn4 (m2 _ _) ?_) hfn)))
      refine wpAny_Name (wpAny_loadName_local rfl l3 hn4 (m1 _ _) ?_) (by decide)
      refine set_plain X4 (ox := excO C t1) (od := none) ⟨hx4, rfl, rfl, trivial⟩ T.T.sa ?_
      refine exc_osa X4 hx4 hcl (show refsVE (.ref C :: bm) = true from hbm) rfl T.no (fun h5 tk5 dx k5 dn dne hx5 hn5 => ?_)
      show wpAt _ _ _ (execs _ _) _ _ _
      have z4 : hp.objs.size < h4.objs.size := hn4.lt
      exact wpAt_of_wpAny (wpAny_execs_nil (hq h5 tk5 dx t1 ⟨fun b o hb e => k5 b o hb (k4 b o hb (k3 b o (k b o e))), hx5, Nat.le_of_lt (Nat.lt_of_lt_of_le z4 dn), dne, hn5⟩))
end
end OwnX
end PySem

set_option Elab.async false
set_option linter.all false
set_option maxRecDepth 100000
set_option maxHeartbeats 4000000
namespace PySem
namespace OwnX
open PySem.W PySem.Calls PyProof.Rows PySem.HandSPX
structure FldOk (fn : Str) : Prop where
  hfn : (fn == ("__debug__" : Str)) = false
  l1 : (oS fn).names.lookup ("super" : Str) = some .globalImplicit
  l2 : (oS fn).names.lookup ("__class__" : Str) = some .free
  l3 : (oS fn).names.lookup ("self" : Str) = some .local
  l4 : (oS fn).names.lookup fn = some .local
  m1 : ∀ a b : Value, ([(("self" : Str), a), (fn, b)] : List (Str × Value)).reverse.lookup ("self" : Str) = some a
  m2 : ∀ a b : Value, ([(("self" : Str), a), (fn, b)] : List (Str × Value)).reverse.lookup fn = some b
  hbd : ∀ (qn : Str) (dV kV doc pm ct : Value) (an : Option Addr) (p1 p2 : Pos) (bd : List Stmt) (a b cda : Value) (cc : Addr), bindArgs (ksFn "__init__" qn (oA fn p1 p2) bd (oS fn) .none .none doc pm an cda ct cc) ⟨[a, b], []⟩ = pure [(("self" : Str), a), (fn, b)]
theorem fld_name : FldOk "name" := ⟨by decide, rfl, rfl, rfl, rfl, fun _ _ => rfl, fun _ _ => rfl, fun _ _ _ _ _ _ _ _ _ _ _ _ _ _ => rfl⟩
theorem fld_why : FldOk "why" := ⟨by decide, rfl, rfl, rfl, rfl, fun _ _ => rfl, fun _ _ => rfl, fun _ _ _ _ _ _ _ _ _ _ _ _ _ _ => rfl⟩
/-- a made exception -/
structure OwnMade (h h' : Heap) (e C d : Addr) (fn : Str) (v : Value) : Prop where
  keep : ∀ b o, h.get? b = some o → h'.get? b = some o
  new : h.objs.size ≤ e
  obj : ∃ oe vs, h'.get? e = some oe ∧ oe.cls = .ref C ∧ oe.dict = some d ∧ oe.data = .fields vs ∧ vs[1]? = some .none
  dbig : h.objs.size ≤ d
  dne : d ≠ e
  ns : h'.Ns1 d (fun y => if y = fn then some v else none)
section
variable {prog : Program} {w : World} {A : Around} {R : Result → Shared → Prop} {s : Shared} {K : Frag} {mg : Str → Option Value} {base : Heap} {cn fn pre : Str} {C fI cc cda : Addr}
theorem own_made (T : OwnTxt prog K mg base cn fn pre C fI cc cda) (F : FldOk fn) (M : L2.Mod K mg base) (hbase : ∀ b o, base.get? b = some o → s.heap.get? b = some o) {z : Str} {tz : Tok} (hz : z.length ≤ 100000) (hpre : pre.length ≤ 1000) (hroom : A.depth + 1 < recursionLimit)
    (hq : ∀ h' tk e d, OwnMade s.heap h' e C d fn (.str z tz) → R (.ok (.ret (.ref e))) { s with heap := h', toks := tk }) :
    codeAny (model prog w) A (.call (.ref C) ⟨[.str z tz], []⟩) R s := by
  obtain ⟨nm, q, N, bs, bm, sn, sub, ab, col, dd, k0, k1, k2, k3, k5, hC, hbm⟩ := T.T.cls
  obtain ⟨hp, g, dr, tk, os⟩ := s
  have X : K.In hp := M.kin.keeps hbase
  have k : ∀ b o, hp.get? b = some o → ((hp.push (kdv_tup [.str z tz])).push (excO C hp.objs.size)).get? b = some o := fun b o e => Heap.get?_push_of_some _ (Heap.get?_push_of_some _ e)
  have hget : ((hp.push (kdv_tup [.str z tz])).push (excO C hp.objs.size)).get? (hp.objs.size + 1) = some (excO C hp.objs.size) := by heap_get
  have hnx : K.lookup (hp.objs.size + 1) = none := by
    cases e : K.lookup (hp.objs.size + 1) with
    | none => rfl
    | some o =>
      have z : hp.get? (hp.objs.size + 1) = some o := X _ _ e
      exact absurd (Nat.lt_of_succ_lt (Heap.lt_size z)) (Nat.lt_irrefl _)
  refine call_own PySem.F.excBase_ValueError (fun X => refsVE_contains X bm hbm) (X _ _ hC) (looks_findIn X T.iC) (fun self => bind_fn X self T.tI) (by show 1 ≤ sizeLine; rw [sizeLine_eq]; decide) ?_
  refine own_init (s := ⟨(hp.push (kdv_tup [.str z tz])).push (excO C hp.objs.size), g, dr, tk, os⟩) T M (fun b o e => k b o (hbase b o e)) F.hfn F.l1 F.l2 F.l3 F.l4 F.m1 F.m2 (fun dV kV doc pm ct an p1 p2 bd a b => F.hbd _ dV kV doc pm ct an p1 p2 bd a b _ _) hz hpre hget hnx ?_ fun h' tk' dx t1 ⟨k', hx, dn, dne, hns⟩ => ?_
  · show A.depth + 1 < recursionLimit
    exact hroom
  · have old : ∀ b o, hp.get? b = some o → h'.get? b = some o := fun b o e => k' b o (Nat.ne_of_lt (Nat.lt_succ_of_lt (Heap.lt_size e))) (k b o e)
    have z : hp.objs.size + 1 + 1 ≤ dx := by
      first
        | (simpa only [Heap.size_push] using dn)
        | exact dn
        | (have q := dn; rw [Heap.size_push, Heap.size_push] at q; exact q)
    exact ⟨rfl, hq h' tk' (hp.objs.size + 1) dx ⟨old, Nat.le_succ _, ⟨_, _, hx, rfl, rfl, rfl, rfl⟩, Nat.le_trans (Nat.le_trans (Nat.le_succ _) (Nat.le_succ _)) z, dne, hns⟩⟩
end
end OwnX
end PySem
namespace RL
open PySem PySem.Spec PyProof.Rows L2
section
variable {X : Cx} {cn fn pre : Str} {C fI cc cda : Addr}
/-- C(e), e a text -/
def tMkOwn (C : Addr) (fn : Str) (ta : TA) : L2.St → Hp → XK → Prop := fun σ H Q => ta σ H fun vs H1 => ∃ z : Str, vs = [.str z] ∧ z.length ≤ 100000 ∧ ∀ d, H1 d = none → Q (.ref C) (some d) (upd H1 d (.xd [(fn, .str z)]))
theorem pmk_own {a : Expr} {ta : TA} {p pos : Pos} {k : Nat} (T : PySem.OwnX.OwnTxt X.prog X.K X.mg X.base cn fn pre C fI cc cda) (F : PySem.OwnX.FldOk fn) (hpre : pre.length ≤ 1000) (hr : Room k X.A) (ha : PA X [a] ta) (hg : Gl X cn) (hdb : (cn == ("__debug__" : Str)) = false)
    (he : starEach (a :: []) X.env = (false, eval a X.env) :: starEach [] X.env := by rfl) (hpl : (backTo pos (starEach [] X.env)).any (·.1) = false := by rfl) :
    PMk X (.Call (.Name cn p) [a] [] pos) (tMkOwn C fn ta) := by
  intro pins s σ H Q I h
  refine wpAny_Call_Name_kw (ld_glob I hg T.gC ?_ hdb)
  refine PySem.W.callWith_K (h₀ := X.base) I.ok.mod.kin T.T.kC (thn (ha.run pos pins s σ H _ I h) fun us s1 hh => ?_) he hpl
  obtain ⟨vs, H1, I1, r1, z, ev, hz, q1⟩ := hh
  subst ev
  refine ⟨I1.kIn, ?_⟩
  cases r1 with
  | cons rv rn =>
    rename_i v' us'
    cases rn
    obtain ⟨tz, rfl⟩ := rv
    show wpAny _ _ (call (.ref C) [.str z tz]) _ _ _
    have hbs := I1.bk
    obtain ⟨hp, g, dr, tk, os⟩ := s1
    refine wpAny_call (PySem.OwnX.own_made T F I1.ok.mod hbs hz hpre (by have := hr.dp; omega) fun h' tk' e d M => ?_)
    show MkP X pins σ Q (.ref e) ⟨h', g, dr, tk', os⟩
    obtain ⟨oe, fv, hoe, hc, hd, hdat, h1⟩ := M.obj
    have hns := M.ns
    obtain ⟨G', g1, g2⟩ := restrict h' fun b => decide (b ≠ e)
    have gk : ∀ b, b ≠ e → G'.get? b = h'.get? b := fun b hb => g1 b (decide_eq_true hb)
    have ge : G'.get? e = none := g2 e (by simp)
    have old : ∀ b o, hp.get? b = some o → G'.get? b = some o := fun b o q => (gk b (Nat.ne_of_lt (Nat.lt_of_lt_of_le (Heap.lt_size q) M.new))).trans (M.keep b o q)
    have ob : ObjOk X.prog X.w (upd H1 d (.xd [(fn, .str z)])) G' d (.xd [(fn, .str z)]) := by
      refine ⟨_, hns.at (fun o q => (gk d M.dne).trans q), fun f => ?_⟩
      have e2 := lookup_put fn f (V.str z) []
      rw [e2]
      by_cases hf : f = fn
      · rw [if_pos hf, if_pos hf]; exact ⟨tz, rfl⟩
      · rw [if_neg hf, if_neg hf]; trivial
    have J : Inv X pins σ (upd H1 d (.xd [(fn, .str z)])) ⟨G', g, dr, tk', os⟩ := I1.laid (t' := tk') old M.dbig ob
    refine ⟨e, oe, fv, ⟨G', g, dr, tk', os⟩, _, .ref C, some d, rfl, J, fun b o q => ?_, ge, hoe, ⟨hc, hd⟩, hdat, h1, ?_, rfl, I1.bare, raises_own T.T.exC T.T.tyC, q1 d (I1.hok.fresh M.dbig)⟩
    · by_cases hb : b = e
      · have q' : G'.get? b = some o := q
        rw [hb, ge] at q'; cases q'
      · exact (gk b hb).symm.trans q
    · rw [upd_ne (Ne.symm M.dne)]
      exact I1.hok.fresh M.new
variable {K : PySem.W.Frag} {r r' r1 r2 o o' o1 : List Addr} {H H' H1 H2 : Hp} {c c' c1 c2 : Cs} {W : WX} {t : L2.St}
/-- raise C(e) -/
def sRaise (C : Addr) (fn : Str) (f : FE) : FS := fun s c => (f s c).toS s fun d c1 => match d with | .str z => if z.length ≤ 100000 then .err ⟨C, [(fn, .str z)]⟩ s c1 else .bad | _ => .bad
theorem rs_raise {a : Expr} {f : FE} {p pos pos2 : Pos} {k : Nat} (hc : X.calm = true) (tk : Takes X W) (T : PySem.OwnX.OwnTxt X.prog X.K X.mg X.base cn fn pre C fI cc cda) (F : PySem.OwnX.FldOk fn) (hpre : pre.length ≤ 1000) (hr : Room k X.A) (ha : RE X W a f) (hg : Gl X cn) (hdb : (cn == ("__debug__" : Str)) = false := by decide)
    (he : starEach (a :: []) X.env = (false, eval a X.env) :: starEach [] X.env := by rfl) (hpl : (backTo pos (starEach [] X.env)).any (·.1) = false := by rfl) : RS X W (.Raise (some (.Call (.Name cn p) [a] [] pos)) none pos2) (sRaise C fn f) := by
  obtain ⟨_, h1, h2⟩ := ha
  refine ⟨_, ps_raise hc tk (pmk_own T F hpre hr (pa_cons h1 pa_nil he) hg hdb he hpl), fun r o c s H t D hcl hs h => ?_⟩
  refine h2 r o c s H t _ hcl hs (ok_toS hs h fun d c1 r1 H1 v s1 hc1 hv q => ?_)
  split at q
  · rename_i z
    split at q
    · rename_i hz
      refine ⟨z, by rw [hv.str_inv], hz, fun dx hdx => ?_⟩
      refine q r1 _ t (.ref C) (some dx) (Step.new hdx) (hc1.new hdx) ((hs.mono s1).mono (Step.new hdx)) ⟨rfl, dx, _, rfl, upd_same, hc1.fresh hdx, hc1.freshO hdx, rfl, .cons .str .nil⟩
    · exact q.elim
  · exact q.elim
end
end RL

set_option Elab.async false
set_option linter.all false
set_option maxRecDepth 100000
set_option maxHeartbeats 4000000
/-! several clauses 'except x as n' -/
namespace L2
open PySem PySem.Spec PyProof.Rows
def asEnds (i : Nat) (D : Ends) : Ends := { nx := fun σ' H' => D.nx (σ'.set i none) H', rt := D.rt, bk := fun σ' H' => D.bk (σ'.set i none) H', ct := fun σ' H' => D.ct (σ'.set i none) H' }
def wManyAs (K : PySem.W.Frag) (i : Nat) (Wout : WX) (D : Ends) : List (Value × (Addr → Value → Option Addr → TS)) → WX
  | [] => Wout
  | (c, ts) :: r => fun cls d σ H => ∃ b, PySem.W.exmOne K cls c = some b ∧ (b = true → ∀ a, H a = none → ts a cls d (asEnds i D) (σ.set i (some (.ref a))) H) ∧ (b = false → wManyAs K i Wout D r cls d σ H)
inductive HdsAs (X : Cx) (n : Str) : List ExceptHandler → List (Value × (Addr → Value → Option Addr → TS)) → Prop
  | nil : HdsAs X n [] []
  | cons {x : Str} {c : Value} {ts : Addr → Value → Option Addr → TS} {b₀ : Stmt} {suite : List Stmt} {np pos' : Pos} {hds : List ExceptHandler} {l : List (Value × (Addr → Value → Option Addr → TS))} (hc : Names X x c)
      (hsu : ∀ (a : Addr) (oe : Obj) (cls : Value) (d : Option Addr) (pn : List (Addr × Obj)), Zc cls d oe → (∃ vs, oe.data = .fields vs) → PSs (X.suite a ((a, oe) :: pn)) (b₀ :: suite) (ts a cls d)) (r : HdsAs X n hds l) :
      HdsAs X n (.ExceptHandler (some (.Name x np)) (some n) (b₀ :: suite) pos' :: hds) ((c, ts) :: l)
section
variable {X : Cx} {n : Str} {i : Nat} {body : List Stmt} {h₀ : ExceptHandler} {hds : List ExceptHandler} {l : List (Value × (Addr → Value → Option Addr → TS))} {pos : Pos} {tb : WX → TS} {Wout : WX}
theorem ps_try_many_as (hs : X.stack = X.env :: X.outer) (hf : X.env.frame = some X.env.locals) (hN : X.N.Nodup) (hi : X.N[i]? = some n) (hln : X.env.kindOf n = some .local) (tk : Takes X Wout)
    (hb : ∀ (W : WX) (pn : List (Addr × Obj)) (xe : Value → Shared → Prop), Takes (X.tr pn xe) W → PassesOwn (model X.prog X.w) X.A X.env xe → PSs (X.tr pn xe) body (tb W))
    (hh : HdsAs X n (h₀ :: hds) l) : PS X (.Try body (h₀ :: hds) [] [] pos) (fun D σ H => tb (wManyAs X.K i Wout D l) D σ H) := by
  refine ⟨fun pins s σ H D I h => ?_⟩
  have ok := I.ok
  have hfr : X.A.frames = some (X.env :: X.outer) := by rw [ok.frames, hs]
  have hloc : Loc X.env.scope n := .inl hln
  refine wpAny_Try_except ?_
  refine wpAny_mono ((hb (wManyAs X.K i Wout D l) (X.pn ++ pins) (fun e s₁ => wpAny (model X.prog X.w) X.A (noteFrame e X.env) (fun _ s₂ => wpAny (model X.prog X.w) X.A (setFlight e none) (fun _ s₃ =>
    wpAny (model X.prog X.w) X.A (handleBy e X.env (h₀ :: hds)) (SP X pins D) X.xe s₃) X.xe s₂) X.xe s₁) (fun u s' xx => ?_) PassesOwn.looking).run [] s σ H D (I.toTry _) h) (fun f s1 hsp => ?_) (fun e s1 he => he)
  · obtain ⟨a, B, sI, pins', σ', H', cls, d, rfl, J', nb, up, sky, na, os, ag, w⟩ := xx
    have J : Inv X pins σ' H' sI := J'.ofTry ok
    have sky' : Sky B (X.env :: X.outer) a (Zc cls d) X.env.locals s'.heap := by rw [← hs]; exact sky
    show wpAny (model X.prog X.w) X.A (noteFrame (.ref a) X.env) _ _ _
    refine Sky.land Zc.steady hfr hf sky' fun h3 fl3 up3 => ?_
    have J3 : Inv X pins σ' H' { s' with heap := h3 } := J.landed nb fl3.1 (up.trans up3) os ag
    obtain ⟨oe3, vs3, he3, hz3, hd3⟩ := fl3.there
    have notFr : ∀ {h : Heap} {o : Obj} {vs : Array Value}, h.FunFrames B (X.env :: X.outer) → h.get? a = some o → o.data = .fields vs → a ∉ frs (X.env :: X.outer) := fun {h o vs} ff e dd hm => by
      obtain ⟨_, o', e', hnf⟩ := ff.mem hm
      rw [e] at e'; cases e'
      exact hnf _ dd
    have nfr := notFr fl3.2.2.1 he3 hd3
    have nL : a ≠ X.env.locals := fun z => nfr (List.mem_filterMap.mpr ⟨X.env, List.mem_cons_self, by rw [hf, z]⟩)
    have nF : a ∉ X.fs := fun hm => by
      obtain ⟨e, he, q⟩ := List.mem_filterMap.mp hm
      exact nfr (List.mem_filterMap.mpr ⟨e, List.mem_cons_of_mem _ he, q⟩)
    have S3 := J3.suite he3 hd3 na nL nF
    have go : ∀ {hds' : List ExceptHandler} {l' : List (Value × (Addr → Value → Option Addr → TS))}, HdsAs X n hds' l' → wManyAs X.K i Wout D l' cls d σ' H' →
        wpAny (model X.prog X.w) X.A (handleBy (.ref a) X.env hds') (SP X pins D) X.xe { s' with heap := h3 } := by
      intro hds' l' hk
      induction hk with
      | nil =>
        intro w
        refine wpAny_handleBy_nil ?_
        obtain ⟨k1, k2, k3, oe, vs, T, oT, ts', he, hz, hd, h1, hr⟩ := id fl3
        unfold PySem.passOn
        refine wpAny_bind (wpAny_field he hd h1 ?_)
        rw [if_neg (show ¬ ((Value.ref T == Value.none) = true) from by simp)]
        have fin : wpAny (model X.prog X.w) X.A (setFlight (.ref a) X.env.frame) (fun _ s4 => wpAny (model X.prog X.w) X.A (throw (.ref a) : Sem Flow) (SP X pins D) X.xe s4) X.xe { s' with heap := h3 } := by
          rw [hf]
          refine HandSPX.setFlight_upZ fl3 fun h4 hh4 up4 => wpAny_throw (tk _ _ ?_)
          exact ⟨a, B, sI, pins, σ', H', cls, d, rfl, J, nb, (up.trans up3).trans up4, .inr (.inr (by rw [hs]; exact hh4)), na, os, ag, w⟩
        first
          | exact wpAny_bind (wpAny_pure (wpAny_bind fin))
          | exact wpAny_bind fin
      | @cons x c ts b₀ suite np pos' hds2 l2 hc hsu r ih =>
        intro w
        obtain ⟨b, hb1, hyes, hno⟩ := w
        refine wpAny_handleBy_cons (codeAny_handlers_test ?_) (by intro q; cases q)
        have LT : PySem.W.Looks (model X.prog X.w) h3 (typeOf (.ref a)) cls := fun A Q E s k q => wpAny_typeOf_ref (k _ _ he3) (by rw [hz3.1]; exact q)
        have LM := PySem.W.exm_one (M := model X.prog X.w) (J3.kIn) LT hb1
        have test : ∀ {Q : Value → Shared → Prop} {E : Value → Shared → Prop}, Q c { s' with heap := h3 } → wpAny (model X.prog X.w) (X.A.mark (some (.ref a))) (eval (.Name x np) X.env) Q E { s' with heap := h3 } := fun {Q E} q => by
          obtain ⟨hg, hdbg, hm | ⟨hm, hv, hnn⟩⟩ := hc
          · exact ld_glob (X := X.suite a ((a, oe3) :: (X.pn ++ pins))) S3 hg hm q hdbg
          · exact ld_blt (X := X.suite a ((a, oe3) :: (X.pn ++ pins))) S3 hg hm hv q hnn hdbg
        refine test (LM.here ?_)
        cases b with
        | true =>
          refine codeAny_handlers_suite_as ?_
          refine HandSPX.lands_againZ fl3 fun h4 fl4 up4 => ?_
          have J4 : Inv X pins σ' H' { s' with heap := h4 } := J.landed nb fl4.1 ((up.trans up3).trans up4) os ag
          obtain ⟨oe4, vs4, he4, hz4, hd4⟩ := fl4.there
          have S4 := J4.suite he4 hd4 na nL nF
          refine store_ok (X := X.suite a ((a, oe4) :: (X.pn ++ pins))) (v := .ref a) S4 hN hi hloc rfl (fun s5 S5 => ?_) (.inr hln)
          refine wpAny_mono ((hsu a oe4 cls d (X.pn ++ pins) hz4 ⟨_, hd4⟩).run [] s5 _ H' _ S5 (hyes rfl a na)) (fun f s6 hsp => ?_) (fun _ _ z => False.elim z)
          have end_ : ∀ {σ6 : L2.St} {H6 : Hp} {Q : Shared → Prop}, Inv (X.suite a ((a, oe4) :: (X.pn ++ pins))) [] σ6 H6 s6 → (∀ s7, Inv X pins (σ6.set i none) H6 s7 → Q s7) →
              wpAny (model X.prog X.w) X.A (do bindName X.env n .none; unbindBehindTheSuite X.env n pos') (fun _ s7 => Q s7) X.xe s6 := fun {σ6 H6 Q} S6 hq => gone_ok (S6.unsuite ok) hN hi hln hq
          cases f with
          | next =>
            obtain ⟨σ6, H6, S6, q6⟩ := hsp
            exact end_ S6 fun s7 J7 => ⟨_, _, J7, q6⟩
          | brk =>
            obtain ⟨σ6, H6, S6, q6⟩ := hsp
            exact end_ S6 fun s7 J7 => ⟨_, _, J7, q6⟩
          | cont =>
            obtain ⟨σ6, H6, S6, q6⟩ := hsp
            exact end_ S6 fun s7 J7 => ⟨_, _, J7, q6⟩
          | ret u =>
            obtain ⟨v6, σ6, H6, S6, r6, q6⟩ := hsp
            exact end_ S6 fun s7 J7 => ⟨_, _, _, J7, r6, q6⟩
        | false =>
          show wpAny _ X.A (handleBy (.ref a) X.env hds2) _ _ _
          exact ih (hno rfl)
    exact go hh w
  · cases f with
    | next =>
      obtain ⟨σ', H', J', q⟩ := hsp
      exact wpAny_execs_nil ⟨σ', H', J'.ofTry ok, q⟩
    | brk =>
      obtain ⟨σ', H', J', q⟩ := hsp
      exact ⟨σ', H', J'.ofTry ok, q⟩
    | cont =>
      obtain ⟨σ', H', J', q⟩ := hsp
      exact ⟨σ', H', J'.ofTry ok, q⟩
    | ret u =>
      obtain ⟨v, σ', H', J', r, q⟩ := hsp
      exact ⟨v, σ', H', J'.ofTry ok, r, q⟩
end
end L2
/-! isinstance of a caught error of an own class, with or without own fields -/
namespace PySem.W
open PySem PySem.Spec PySem.Calls PyProof.Rows
section
variable {prog : Program} {w : World} {A : Around} {E : Value → Shared → Prop} {s : Shared} {K : Frag} {x D : Addr} {ox : Obj} {od : Option Obj}
theorem findObj_dataG {C : Addr} {name : Str} {a g : Value} (hc : (clsIn K C).isSome = true) (ha : findIn K (.ref C) name = some (some a)) (hg : specialIn K a "__get__" = some (some g)) (ht : takesIn K a = some true) : findObj K C od name = some (.bind g a) := by
  obtain ⟨cd, hc⟩ := Option.isSome_iff_exists.mp hc
  unfold findObj
  rw [hc, Option.bind_some, ha, Option.bind_some]
  simp [hg, ht]
theorem kin_classG {Q : Option Value → Shared → Prop} (hga : findIn K (.ref D) "__getattribute__" = some (some (.builtin "BaseException.__getattribute__"))) (hgt : findIn K (.ref D) "__getattr__" = some none) (hsub : subIn K (.ref D) (.type "BaseException") = some true)
    (hdct : hasDictIn K D = true) (ha : findIn K (.ref D) "__class__" = some (some (.builtin "object.__class__")))
    (hn : specialIn K (.builtin "object.__class__") "__get__" = some (some (.builtin "getset_descriptor.__get__"))) (htk : takesIn K (.builtin "object.__class__") = some true) (hm : mroIn K D (.type "object") = some true)
    (X : K.In s.heap) (I : InstAt s.heap x ox D od) (h : Q (some (.ref D)) { s with toks := s.toks + 1 }) : wpAny (model prog w) A (getAttr? (.ref x) "__class__") Q E s := by
  have hf : findObj K D od "__class__" = some (.bind (.builtin "getset_descriptor.__get__") (.builtin "object.__class__")) := findObj_dataG (by obtain ⟨cd, hc, _⟩ := any_some hdct; rw [hc]; rfl) ha hn htk
  obtain ⟨hp, g, d, t, os⟩ := s
  have L0 := I.type (M := model prog w)
  have L1 := looks_findIn (M := model prog w) X hga
  have L2 := looks_findIn (M := model prog w) X hgt
  have L3 := looks_find (M := model prog w) X I hf
  have sub : Looks (model prog w) hp (isInstance (.ref x) (.type "BaseException")) true := L0.andThen (looks_subIn X hsub)
  have hx0 : (false && onTheHeap (Value.builtin "BaseException.__getattribute__")) = false := rfl
  have hx2 : (Value.builtin "BaseException.__getattribute__" == Value.builtin "object.__getattribute__") = false := by decide +kernel
  have hx1 : (onTheHeap (Value.ref D) && Value.builtin "BaseException.__getattribute__" == Value.builtin "object.__getattribute__") = false := by rw [hx2]; rfl
  unfold getAttr? getAttrBy? getAttrBy
  refine wpAny_bind (wpAny_mkText (wpAny_bind (wpAny_attempt (wpAny_holding (wpAny_bind (L0.at (wpAny_bind (L1.at ?_))))))))
  show wpAny _ _ (if (onTheHeap (Value.ref D) && Value.builtin "BaseException.__getattribute__" == Value.builtin "object.__getattribute__") = true then _ else _) _ _ _
  rw [hx1, if_neg Bool.false_ne_true]
  unfold getAttrByItsOwn hookBefore
  refine wpAny_bind ?_
  rw [if_pos (show onTheHeap (Value.ref D) = true from rfl)]
  refine L2.at ?_
  refine wpAny_bind (wpAny_attempt (wpAny_holding ?_))
  unfold callGetattribute
  rw [hx0, if_neg Bool.false_ne_true]
  unfold boundAndCalled
  rw [PySem.F.excAttr_ValueError.ga.bind (.ref x)]
  refine wpAny_bind (wpAny_pure ?_)
  show wpAny _ _ (call (.builtin "BaseException.__getattribute__") [.ref x, .str "__class__" t]) _ _ _
  refine wpAny_call (codeAny_call_builtin PySem.F.excAttr_ValueError.ga.plain PySem.F.entry_bexc_ga ?_)
  refine @check_slot (model prog w) _ _ ⟨hp, g, d, t + 1, os⟩ "BaseException.__getattribute__" "BaseException" "__getattribute__" (.ref x) [.str "__class__" t] [] _ (by decide +kernel) (by decide +kernel) sub (PySem.F.args_bexc_ga (.ref x) (.str "__class__" t)) ?_
  unfold Builtin.«object.__getattribute__»
  refine wpAny_bind (wpAny_of_eq (a := ((Value.ref x : Value), [Value.str "__class__" t])) (by first | rfl | (simp only [slotArgs]; rfl)) ?_)
  refine wpAny_bind (wpAny_pure (wpAny_bind (L0.at (wpAny_bind (L3.at ?_)))))
  show wpAny _ _ (holding [Value.builtin "object.__class__"] (call (.builtin "getset_descriptor.__get__") [.builtin "object.__class__", .ref x, .ref D]) >>= ret) _ _ _
  refine wpAny_bind (wpAny_holding (wpAny_call (class_get (s := ⟨hp, g, d, t + 1, os⟩) (ox := ox) (od := od) X I hm ?_)))
  refine wpAny_pure ?_
  show wpAny _ _ (handedOut (.ref D)) _ _ _
  rw [handedOut_of (v := .ref D) rfl]
  first
    | exact wpAny_pure (wpAny_pure h)
    | exact wpAny_pure h
    | exact wpAny_pure (wpAny_bind (wpAny_pure (wpAny_pure h)))
theorem kitx_excG (hga : findIn K (.ref D) "__getattribute__" = some (some (.builtin "BaseException.__getattribute__"))) (hgt : findIn K (.ref D) "__getattr__" = some none) (hsub : subIn K (.ref D) (.type "BaseException") = some true) (hdct : hasDictIn K D = true) (ha : findIn K (.ref D) "__class__" = some (some (.builtin "object.__class__")))
    (hn : specialIn K (.builtin "object.__class__") "__get__" = some (some (.builtin "getset_descriptor.__get__"))) (htk : takesIn K (.builtin "object.__class__") = some true) (hm : mroIn K D (.type "object") = some true) :
    KitX K (.ref x) (.ref D) (fun h => ∃ od, InstAt h x ox D od) where
  ty := fun _ _ _ ⟨_, I⟩ => I.type
  it := fun _ _ X _ => by
    obtain ⟨cdD, hcD, _⟩ := any_some hdct
    unfold clsIn at hcD
    split at hcD
    · rename_i c' d' cd' sl' ho
      intro A' Q' E' s' k q
      unfold isType loadHead
      exact wpAny_bind (wpAny_loadPart (k _ _ (X _ _ ho)) (wpAny_pure q))
    · cases hcD
  ne := fun h tp dd its n sl X htp => by
    obtain ⟨cdD, hcD, _⟩ := any_some hdct
    refine Bool.eq_false_iff.mpr fun q => ?_
    have e : D = tp := Value.ref.inj (beq_iff_eq.mp q)
    subst e
    unfold clsIn at hcD
    split at hcD
    · rename_i c' d' cd' sl' ho
      have z := (X _ _ ho).symm.trans htp
      cases z
    · cases hcD
  ca := fun X ⟨_, I⟩ k => kin_classG hga hgt hsub hdct ha hn htk hm X I k
end
end PySem.W
namespace L2
open PySem PySem.Spec PyProof.Rows
/-- isinstance(e, c), e the exception that the suite holds; at d its own fields -/
def rIsG (K : PySem.W.Frag) (D a : Addr) (d : Option Addr) : List V → Hp → VK → Prop := fun xs H Q => ∃ (c : V) (cv : Value) (b : Bool), xs = [.ref a, c] ∧ (∀ u, RelV c u → u = cv) ∧ PySem.W.kitOne K (.ref D) cv = some b ∧ (∀ dd, d = some dd → ∃ fs, H dd = some (.xd fs)) ∧ Q (.bl b) H
theorem call_isG {X : Cx} {a D : Addr} {d : Option Addr} {oe : Obj} {pn : List (Addr × Obj)} (C : ExcC X.K D) (hz : Zc (.ref D) d oe) (hf : ∃ vs, oe.data = .fields vs) : CallR (X.suite a ((a, oe) :: pn)) (.builtin "isinstance") (rIsG X.K D a d) := by
  intro pins s σ H xs us Q I r h
  obtain ⟨c, cv, b, rfl, hcv, e, hdd, q⟩ := h
  cases r with
  | cons rx rr =>
    cases rr with
    | cons rt rr =>
      cases rr
      cases rx
      have ec := hcv _ rt
      subst ec
      obtain ⟨hget, _⟩ := I.pin (a, oe) (List.mem_append.mpr (.inl List.mem_cons_self))
      obtain ⟨vs, hv⟩ := hf
      have J : ∃ od, PySem.W.InstAt s.heap a oe D od := by
        cases d with
        | none => exact ⟨none, hget, hz.1, by unfold PySem.W.notCls; rw [hv] <;> rfl, by rw [hz.2]; trivial⟩
        | some dd =>
          obtain ⟨fs, ed⟩ := hdd dd rfl
          have hx : ObjOk X.prog X.w H s.heap dd (.xd fs) := I.hok dd _ ed
          obtain ⟨mA, hns, _⟩ := hx
          obtain ⟨od, ho, _⟩ := lookIn_ns hns
          exact ⟨some od, hget, hz.1, by unfold PySem.W.notCls; rw [hv] <;> rfl, by rw [hz.2]; exact ho⟩
      exact PySem.W.kia_one (PySem.W.kitx_excG C.hg C.hk C.hs C.hd C.ha C.hn C.ht C.hm) I.kIn J e (fun z => nomatch z) fun tk => ⟨.bl b, H, I.kept (t' := tk) fun _ _ z => z, rfl, q⟩
end L2

set_option Elab.async false
set_option linter.all false
set_option maxRecDepth 100000
set_option maxHeartbeats 4000000
namespace RL
open PySem PySem.Spec PyProof.Rows L2
/-! ### what a def that tells of an error makes of it -/
/-- what the written part says of an error class -/
structure ClsTxt (K : PySem.W.Frag) (C Bough : Addr) (fn : Str) : Prop where
  xf : XfC K C
  ex : ExcC K C
  no : PySem.W.findIn K (.ref C) fn = some none
  b1 : PySem.W.kitOne K (.ref C) (.ref Bough) = some true
  b2 : PySem.W.kitOne K (.ref C) (.type "ValueError") = some true
def tClause (K : PySem.W.Frag) (kind fn : Str) (C Bough a : Addr) (d : Option Addr) (i : Nat) : TS :=
  tRet (tTup (tCons (tC (.str kind)) (tCons (tXf a (.ref C) d C fn (tVar i)) (tCons (tAndV (tCB (rIsG K C a d) (tCons (tVar i) (tCons (tC (.ref Bough)) tNil))) (tCB (rIsG K C a d) (tCons (tVar i) (tCons (tC (.ty "ValueError")) tNil)))) tNil))))
theorem clause_ok {K : PySem.W.Frag} {kind fn : Str} {C Bough a dd : Addr} {i : Nat} {D : Ends} {σ : L2.St} {H : Hp} {z : Str} (T : ClsTxt K C Bough fn) (hσ : σ[i]? = some (some (.ref a))) (hH : H dd = some (.xd [(fn, .str z)]))
    (h : ∀ p, H p = none → D.rt (.ref p) (upd H p (.tup [.str kind, .str z, .bl true]))) : tClause K kind fn C Bough a (some dd) i D σ H := by
  have hl : List.lookup fn [(fn, V.str z)] = some (V.str z) := by rw [lookup_put, if_pos rfl]
  refine ⟨_, hσ, rfl, rfl, dd, _, .str z, rfl, hH, hl, _, hσ, .ref Bough, .ref Bough, true, rfl, fun u e => e, T.b1, fun d' e => ?_, true, rfl, ?_⟩
  · cases e; exact ⟨_, hH⟩
  · refine ⟨_, hσ, .ty "ValueError", .type "ValueError", true, rfl, fun u e => e, T.b2, fun d' e => ?_, ?_, h⟩
    · cases e; exact ⟨_, hH⟩
    · show 3 ≤ sizeLine
      rw [sizeLine_eq]; decide
theorem pss_guard {X : Cx} {φ : Prop} {st : List Stmt} {t : TS} (h : φ → PSs X st t) : PSs X st (fun D σ H => φ ∧ t D σ H) := ⟨fun pins s σ H D I q => (h q.1).run pins s σ H D I q.2⟩
theorem pss_len {X : Cx} {st : List Stmt} {t : TS} (h : PSs X st t) : PSs X st (fun D σ H => σ.length = X.N.length → t D σ H) := ⟨fun pins s σ H D I q => h.run pins s σ H D I (q I.len)⟩
def tsCl (K : PySem.W.Frag) (n : Nat) (kind fn : Str) (C Bough : Addr) (i : Nat) : Addr → Value → Option Addr → TS := fun a cls d D σ H => cls = .ref C ∧ (σ.length = n → tClause K kind fn C Bough a d i D σ H)
theorem pss_clause {X : Cx} {kind fn e : Str} {C Bough : Addr} {i j k : Nat} {a : Addr} {oe : Obj} {cls : Value} {d : Option Addr} {pn : List (Addr × Obj)} {p1 p2 p3 p4 p5 p6 p7 p8 p9 p10 p11 p12 p13 p14 : Pos} (T : ClsTxt X.K C Bough fn) (hi : X.N[i]? = some e) (hv : Vis X.env.scope e) (he : (e == ("__debug__" : Str)) = false) (he2 : (e == ("__classdict__" : Str)) = false)
    (g1 : Gl X "isinstance") (m1 : X.mg "isinstance" = none) (g2 : Gl X "BoughError") (m2 : X.mg "BoughError" = some (.ref Bough)) (g3 : Gl X "ValueError") (m3 : X.mg "ValueError" = none) (hz : Zc cls d oe) (hf : ∃ vs, oe.data = .fields vs) :
    PSs (X.suite a ((a, oe) :: pn)) [.Return (some (.Tuple [.Constant (.str kind) j p1, .Attribute (.Name e p2) fn p3, .BoolOp .And [.Call (.Name "isinstance" p4) [.Name e p5, .Name "BoughError" p6] [] p7, .Call (.Name "isinstance" p8) [.Name e p9, .Name "ValueError" p10] [] p11] p12] k p13)) p14] (tsCl X.K X.N.length kind fn C Bough i a cls d) := by
  refine pss_guard fun hc => ?_
  subst hc
  refine pss_len (X := X.suite a ((a, oe) :: pn)) ?_
  have g1' : Gl (X.suite a ((a, oe) :: pn)) "isinstance" := g1
  have g2' : Gl (X.suite a ((a, oe) :: pn)) "BoughError" := g2
  have g3' : Gl (X.suite a ((a, oe) :: pn)) "ValueError" := g3
  have pv : ∀ p, PE (X.suite a ((a, oe) :: pn)) (.Name e p) (tVar i) := fun p => pe_var (X := X.suite a ((a, oe) :: pn)) hi hv he he2
  refine pss_one (ps_ret (pe_tup (pa_cons pe_str (pa_cons (pe_xf T.xf T.no hz hf (pv p2)) (pa_cons (pe_and (pe_callB (call_isG T.ex hz hf) g1' m1 PyProof.Rows.boot_isinstance (pa_cons (pv p5) (pa_cons (pe_glob (v := .ref Bough) g2' m2 rfl (by decide)) pa_nil rfl) rfl) (by decide) (by decide)) (pe_one (pe_callB (call_isG T.ex hz hf) g1' m1 PyProof.Rows.boot_isinstance (pa_cons (pv p9) (pa_cons (pe_bltn (v := .ty "ValueError") g3' m3 PyProof.Rows.Boot.«ValueError» rfl (by decide) (by decide)) pa_nil rfl) rfl) (by decide) (by decide)))) pa_nil rfl) rfl) rfl)))
/-- told: what the call of the lambda is worth, turned -/
def heardR (CB CR : Addr) : Res D → Res D
  | .ok _ c => .ok (.tup []) c
  | .err x c => (match x.fs with
    | [(f, .str z)] => if x.C = CB ∧ f = "name" then .ok (.tup [.str "bad", .str z, .bl true]) c else if x.C = CR ∧ f = "why" ∧ CR ≠ CB then .ok (.tup [.str "refused", .str z, .bl true]) c else .bad
    | _ => .bad)
  | .bad => .bad
def TTh (K : PySem.W.Frag) (CB CR : Addr) : (XK → Hp → VK → Prop) → Hp → VK → Prop := fun tl H Q => ∃ (r o : List Addr) (c : Cs) (L : Cs → Res D), Cells K r o c H ∧
  (∀ (r' : List Addr) (H' : Hp) (E' : XK) (Q' : VK), Step r H r' H' → Cells K r' o c H' → OkG K (WF E') (Is K) r' o H' [] Q' (L c) → tl E' H' Q') ∧ OkG K (fun _ _ _ _ => False) (Is K) r o H [] Q (heardR CB CR (L c))
/-- the text of such a def -/
structure HeardTxt (K : PySem.W.Frag) (mg : Str → Option Value) (CB CR CU Bough : Addr) : Prop where
  tB : ClsTxt K CB Bough "name"
  tR : ClsTxt K CR Bough "why"
  mB : mg "BadArgument" = some (.ref CB)
  mR : mg "Refused" = some (.ref CR)
  mU : mg "Unread" = some (.ref CU)
  mG : mg "BoughError" = some (.ref Bough)
  mi : mg "isinstance" = none
  mv : mg "ValueError" = none
  eBB : PySem.W.exmOne K (.ref CB) (.ref CB) = some true
  eRB : PySem.W.exmOne K (.ref CR) (.ref CB) = some false
  eRR : PySem.W.exmOne K (.ref CR) (.ref CR) = some true
section
variable {X : Cx} {CB CR CU Bough : Addr}
theorem heard_gives {x q : Str} {sg : Scope} {g : Addr} {cdg : Value} {j1 j2 k1 k2 k3 : Nat} {su : List Stmt} {s0 : Stmt}
    {p1 p2 p3 p4 p5 p6 a1 a2 a3 a4 a5 a6 a7 a8 a9 a10 a11 a12 a13 a14 b1 b2 b3 b4 b5 b6 b7 b8 b9 b10 b11 b12 b13 b14 n1 n2 n3 n4 n5 n6 : Pos} (T : HeardTxt X.K X.mg CB CR CU Bough)
    (l1 : sg.names.lookup ("ask" : Str) = some .local) (l2 : sg.names.lookup ("e" : Str) = some .local) (l3 : sg.names.lookup ("BadArgument" : Str) = some .globalImplicit) (l4 : sg.names.lookup ("isinstance" : Str) = some .globalImplicit) (l5 : sg.names.lookup ("BoughError" : Str) = some .globalImplicit)
    (l6 : sg.names.lookup ("ValueError" : Str) = some .globalImplicit) (l7 : sg.names.lookup ("Refused" : Str) = some .globalImplicit) (l8 : sg.names.lookup ("Unread" : Str) = some .globalImplicit) :
    LamX.GivesTo X ["ask", "e"] x sg g cdg [.Try [.Expr (.Call (.Name "ask" p1) [] [] p2) p3]
      [.ExceptHandler (some (.Name "BadArgument" n1)) (some "e") [.Return (some (.Tuple [.Constant (.str "bad") j1 a1, .Attribute (.Name "e" a2) "name" a3, .BoolOp .And [.Call (.Name "isinstance" a4) [.Name "e" a5, .Name "BoughError" a6] [] a7, .Call (.Name "isinstance" a8) [.Name "e" a9, .Name "ValueError" a10] [] a11] a12] k1 a13)) a14] n2,
       .ExceptHandler (some (.Name "Refused" n3)) (some "e") [.Return (some (.Tuple [.Constant (.str "refused") j2 b1, .Attribute (.Name "e" b2) "why" b3, .BoolOp .And [.Call (.Name "isinstance" b4) [.Name "e" b5, .Name "BoughError" b6] [] b7, .Call (.Name "isinstance" b8) [.Name "e" b9, .Name "ValueError" b10] [] b11] b12] k2 b13)) b14] n4,
       .ExceptHandler (some (.Name "Unread" n5)) (some "e") (s0 :: su) n6] [] [] p4, .Return (some (.Tuple [] k3 p5)) p6] "ask" q (TTh X.K CB CR) := by
  intro f c' s H Q tl act hc h
  obtain ⟨r, o, c, L, hcl, htl, hres⟩ := h
  generalize hY : (cxOf C8.CX0 X.prog X.w X.K X.mg X.base ["ask", "e"] x sg g cdg X.A X.stack s H C8.E0).nox = Y
  have Yk : Y.K = X.K := by rw [← hY]; rfl
  have Ym : Y.mg = X.mg := by rw [← hY]; rfl
  have YN : Y.N = [("ask" : Str), "e"] := by rw [← hY]; rfl
  have Ysc : Y.env.scope = sg := by rw [← hY]; rfl
  have gl : ∀ {z : Str}, sg.names.lookup z = some .globalImplicit → Gl Y z := fun {z} e => by rw [← hY]; exact e
  have T' : HeardTxt Y.K Y.mg CB CR CU Bough := by rw [Yk, Ym]; exact T
  have he : Vis Y.env.scope ("e" : Str) := by rw [Ysc]; exact .inl l2
  have hN : Y.N.Nodup := by rw [YN]; decide
  have hi : Y.N[1]? = some ("e" : Str) := by rw [YN]; rfl
  have hln : Y.env.kindOf "e" = some .local := by rw [← hY]; exact l2
  have clB : ∀ (a : Addr) (oe : Obj) (cls : Value) (d : Option Addr) (pn : List (Addr × Obj)), Zc cls d oe → (∃ vs, oe.data = .fields vs) → PSs (Y.suite a ((a, oe) :: pn)) [.Return (some (.Tuple [.Constant (.str "bad") j1 a1, .Attribute (.Name "e" a2) "name" a3, .BoolOp .And [.Call (.Name "isinstance" a4) [.Name "e" a5, .Name "BoughError" a6] [] a7, .Call (.Name "isinstance" a8) [.Name "e" a9, .Name "ValueError" a10] [] a11] a12] k1 a13)) a14] (tsCl Y.K Y.N.length "bad" "name" CB Bough 1 a cls d) := fun a oe cls d pn hz hf =>
    pss_clause T'.tB hi he (by decide) (by decide) (gl l4) T'.mi (gl l5) T'.mG (gl l6) T'.mv hz hf
  have clR : ∀ (a : Addr) (oe : Obj) (cls : Value) (d : Option Addr) (pn : List (Addr × Obj)), Zc cls d oe → (∃ vs, oe.data = .fields vs) → PSs (Y.suite a ((a, oe) :: pn)) [.Return (some (.Tuple [.Constant (.str "refused") j2 b1, .Attribute (.Name "e" b2) "why" b3, .BoolOp .And [.Call (.Name "isinstance" b4) [.Name "e" b5, .Name "BoughError" b6] [] b7, .Call (.Name "isinstance" b8) [.Name "e" b9, .Name "ValueError" b10] [] b11] b12] k2 b13)) b14] (tsCl Y.K Y.N.length "refused" "why" CR Bough 1 a cls d) := fun a oe cls d pn hz hf =>
    pss_clause T'.tR hi he (by decide) (by decide) (gl l4) T'.mi (gl l5) T'.mG (gl l6) T'.mv hz hf
  have dead : ∀ (a : Addr) (oe : Obj) (cls : Value) (d : Option Addr) (pn : List (Addr × Obj)), Zc cls d oe → (∃ vs, oe.data = .fields vs) → PSs (Y.suite a ((a, oe) :: pn)) (s0 :: su) ((fun _ _ _ _ _ _ => False : Addr → Value → Option Addr → TS) a cls d) := fun a oe cls d pn hz hf => ⟨fun _ _ _ _ _ _ z => z.elim⟩
  refine ⟨_, pss_cons (ps_try_many_as (X := Y) (n := "e") (i := 1) (l := [(.ref CB, tsCl Y.K Y.N.length "bad" "name" CB Bough 1), (.ref CR, tsCl Y.K Y.N.length "refused" "why" CR Bough 1), (.ref CU, fun _ _ _ _ _ _ => False)])
      (tb := fun W D σ H => ∃ Ech : XK, (∀ cls d σ' H', Ech cls d H' → W cls d σ' H') ∧ σ[0]? = some (some (.ref f)) ∧ H c' = some (LamX.CodeO c' q) ∧ tl Ech H fun _ H' => D.nx σ H')
      (by rw [← hY]; rfl) (by rw [← hY]; rfl) hN hi hln LamX.takes0 (fun W pn xe tk _ => ?_) (.cons ⟨gl l3, by decide, .inl T'.mB⟩ clB (.cons ⟨gl l7, by decide, .inl T'.mR⟩ clR (.cons ⟨gl l8, by decide, .inl T'.mU⟩ dead .nil)))) (pss_one (ps_ret (pe_tup pa_nil))), ?_⟩
  · refine ⟨fun pins s' σ H' D I h' => ?_⟩
    obtain ⟨Ech, hW, h1, h2, h3⟩ := h'
    have hp := act W pn xe Ech p1 p2 (by rw [← hY] at tk; exact tk) hW
    have hq := pss_one (ps_expr (pos := p3) hp rfl)
    subst hY
    exact hq.run pins s' σ H' D I ⟨h1, h2, h3⟩
  · -- the end
    refine ⟨fun cls d H' => (cls = .ref CB ∧ ∃ dd z, d = some dd ∧ H' dd = some (.xd [("name", .str z)]) ∧ ∀ p, H' p = none → Q (.ref p) (upd H' p (.tup [.str "bad", .str z, .bl true]))) ∨
      (cls = .ref CR ∧ ∃ dd z, d = some dd ∧ H' dd = some (.xd [("why", .str z)]) ∧ ∀ p, H' p = none → Q (.ref p) (upd H' p (.tup [.str "refused", .str z, .bl true]))), fun cls d σ' H' hE => ?_, rfl, hc, ?_⟩
    · have idx : ∀ a : Addr, (σ'.set 1 (some (V.ref a))).length = Y.N.length → (σ'.set 1 (some (V.ref a)))[1]? = some (some (V.ref a)) := fun a hl => by
        rw [YN, List.length_set] at hl
        rw [List.getElem?_set_self (by rw [hl]; decide)]
      rcases hE with ⟨rfl, dd, z, rfl, hd, hQ⟩ | ⟨rfl, dd, z, rfl, hd, hQ⟩
      · exact ⟨true, T'.eBB, fun _ a _ => ⟨rfl, fun hl => clause_ok T'.tB (idx a hl) hd hQ⟩, fun z => by cases z⟩
      · exact ⟨false, T'.eRB, fun z => (by cases z), fun _ => ⟨true, T'.eRR, fun _ a _ => ⟨rfl, fun hl => clause_ok T'.tR (idx a hl) hd hQ⟩, fun z => by cases z⟩⟩
    · refine htl r H _ _ Step.refl hcl ?_
      cases eL : L c with
      | bad => rw [eL] at hres; exact hres
      | ok d cF =>
        rw [eL] at hres
        intro r' H' v st hc' hv
        refine ⟨by show 0 ≤ sizeLine; exact Nat.zero_le _, fun p hp => ?_⟩
        exact hres r' _ _ (st.trans (Step.new hp)) (hc'.new hp) (Is.newTup hc' hp .nil)
      | err e cF =>
        rw [eL] at hres
        intro r' H' cls dx st hc' hx
        obtain ⟨ecls, d, vs, ed, hd, hnr, hno, hfs⟩ := hx
        obtain ⟨C, fs⟩ := e
        simp only at ecls hfs
        subst ecls; subst ed
        unfold heardR at hres
        simp only at hres
        split at hres
        · rename_i fn z
          have evs : vs = [(fn, .str z)] := by
            obtain ⟨e1, e2⟩ := hfs
            match vs, e1, e2 with
            | [(g, w)], e1, e2 =>
              simp only [List.map_cons, List.map_nil, List.cons.injEq, and_true] at e1
              cases e2 with
              | cons a b =>
                have := a.str_inv
                subst this
                rw [e1]
            | [], e1, _ => cases e1
            | _ :: _ :: _, e1, _ => simp at e1
          subst evs
          have fin : ∀ kind : Str, (∀ r' H' v, Step r H r' H' → Cells X.K r' o cF H' → Is X.K r' o H' (.tup [.str kind, .str z, .bl true]) v → Q v H') → ∀ p, H' p = none → Q (.ref p) (upd H' p (.tup [.str kind, .str z, .bl true])) := fun kind hk p hp =>
            hk r' _ _ (st.trans (Step.new hp)) (hc'.new hp) (Is.newTup hc' hp (.cons .str (.cons .str (.cons .bl .nil))))
          split at hres
          · rename_i hh
            obtain ⟨rfl, rfl⟩ := hh
            exact .inl ⟨rfl, d, z, rfl, hd, fin _ hres⟩
          · split at hres
            · rename_i hh
              obtain ⟨rfl, rfl, _⟩ := hh
              exact .inr ⟨rfl, d, z, rfl, hd, fin _ hres⟩
            · exact hres.elim
        · exact hres.elim
end
end RL

set_option Elab.async false
set_option linter.all false
set_option maxRecDepth 100000
set_option maxHeartbeats 4000000
namespace RL
open PySem PySem.Spec PyProof.Rows L2
section
variable {X : Cx} {pins : List (Addr × Obj)} {σ : L2.St} {H : Hp} {s : Shared} {r o : List Addr} {c : Cs}
theorem lam_make3 {cc P : Addr} {q : Str} {n : Nat} {params : Arguments} {body : Expr} {scope : Scope} {pos : Pos} {E : Value → Shared → Prop} {Q : Value → Shared → Prop} (I : Inv X pins σ H s) (TB : LamX.TabB X.base X.mg cc P) (hcode : X.env.code = .ref cc)
    (hcl : Cells X.K r o c H) (htab : c[n]? = some (.tab P q)) (hq : X.env.qual ++ "<lambda>" = q) (hdef : defaultsOf params X.env = ([], [])) (hfree : ∀ y ∈ scope.names, y.2 = .free → ∃ c, X.env.cells.lookup y.1 = some c)
    (h : ∀ (f c' : Addr) (pm ctv : Value) (H1 : Hp) (s' : Shared), Inv X pins σ H1 s' → Cells X.K r o c H1 → Step r H r H1 →
      s'.heap.get? f = some (PySem.W.kla_obj "<lambda>" q params body scope (cloFrom X.env.cells scope.names []) pm c' ctv) → H1 f = none → f ∉ frs X.stack → H1 c' = some (LamX.CodeO c' q) → Q (.ref f) s') :
    wpAny (model X.prog X.w) X.A (eval (.Lambda params body scope pos) X.env) Q E s := by
  subst hq
  obtain ⟨a0, ha0, rfl, ps, hP, ht, hco⟩ := hcl.get htab
  refine PySem.W.kla_eval hdef ?_
  have bP : s.heap.BuiltinsAt X.mg a0 := TB.bm.keeps I.bk
  have hP' : s.heap.get? a0 = some { cls := .none, data := .fields ps } := I.hok a0 _ hP
  have nofr : ∀ f, s.heap.objs.size ≤ f → f ∉ frs X.stack := fun f hf z => by
    rcases List.mem_cons.mp (I.stkSub _ z) with e | e
    · have h1 := I.lt
      rw [← e] at h1
      exact Nat.lt_irrefl _ (Nat.lt_of_lt_of_le h1 hf)
    · exact I.nofs hf e
  cases hc : codeAmong pos ps.toList with
  | none =>
    refine PySem.W.kla_makeFunction (mg := X.mg) (c := cc) (P := a0) (ps := ps) (closure_ok hfree) I.ok.glob (I.mod.glob.keeps I.bk) hcode (TB.code.keeps I.bk) hP' ht hc TB.gP bP fun c' ctv h' tk hx hge hlt hrec htb => ?_
    obtain ⟨c2, oc, vs, t, e2, hoc, hd, hv⟩ := hrec
    cases e2
    have hsz : s.heap.objs.size ≤ h'.objs.size := Nat.le_trans hge (Nat.le_of_lt hlt)
    have nC : H c' = none := I.hok.fresh hge
    have I1 := LamX.inv_table (t' := tk) (more := #[rawInt pos.line, rawInt pos.col, .ref c']) (h' := h'.push (PySem.W.kla_obj "<lambda>" (X.env.qual ++ "<lambda>") params body scope (cloFrom X.env.cells scope.names []) ((X.mg "__name__").getD .none) c' ctv)) I hP
      (fun b o hb e => Heap.get?_push_of_some _ (hx b o hb e)) (Heap.get?_push_of_some _ htb) hge ⟨oc, vs, t, Heap.get?_push_of_some _ hoc, hd, hv⟩
    have eL : (ps ++ #[rawInt pos.line, rawInt pos.col, .ref c']).toList = ps.toList ++ [rawInt pos.line, rawInt pos.col, .ref c'] := by simp
    obtain ⟨hc3, st3⟩ := hcl.tabled (ps' := ps ++ #[rawInt pos.line, rawInt pos.col, .ref c']) (cn := c') htab hP nC (by rw [eL]; exact PySem.TriplesOk_snoc _ _ _ _ ht) (fun pos' cv hcv => by rw [eL] at hcv; exact LamX.among_app _ ht hcv)
    refine h h'.objs.size c' ((X.mg "__name__").getD .none) ctv _ _ I1 hc3 st3 (Heap.get?_push_size _ rfl) ?_ (nofr _ hsz) upd_same
    have n1 : h'.objs.size ≠ c' := Nat.ne_of_gt hlt
    have n2 : h'.objs.size ≠ a0 := Nat.ne_of_gt (Nat.lt_of_lt_of_le (Heap.lt_size hP') hsz)
    rw [upd_ne n1, upd_ne n2]
    exact I.hok.fresh hsz
  | some cv =>
    obtain ⟨c', e, hco', _, _⟩ := hco pos cv hc
    subst e
    refine PySem.W.kla_makeFunctionHit (mg := X.mg) (c := cc) (P := a0) (ps := ps) (closure_ok hfree) I.ok.glob (I.mod.glob.keeps I.bk) hcode (TB.code.keeps I.bk) hP' ht hc bP fun ctv h' tk hx hsz => ?_
    have I1 : Inv X pins σ H { s with heap := h'.push (PySem.W.kla_obj "<lambda>" (X.env.qual ++ "<lambda>") params body scope (cloFrom X.env.cells scope.names []) ((X.mg "__name__").getD .none) c' ctv), toks := tk } := I.kept fun b o e => Heap.get?_push_of_some _ (hx b o e)
    exact h h'.objs.size c' ((X.mg "__name__").getD .none) ctv H _ I1 hcl Step.refl (Heap.get?_push_size _ rfl) (I.hok.fresh hsz) (nofr _ hsz) hco'
variable {W : WX}
def eLam (n : Nat) (P : Addr) (q : Str) (CB CR : Addr) (f : FE) : FE := fun s c => if hasTab c n P q = true then heardR CB CR (f s c) else .bad
/-- x(lambda: body), x a def that tells of errors -/
theorem re_lam {x a : Str} {g cc P : Addr} {k n : Nat} {q : Str} {CB CR : Addr} {f : FE} {pg : Arguments} {bg : List Stmt} {sg : Scope} {dV kV doc pm cdv ct oc : Value} {an od : Option Addr} {osl : Array (Option Value)} {Ng : List Str}
    {params : Arguments} {body : Expr} {scope : Scope} {p lpos pos : Pos} (hg : Gl X x) (hm : X.mg x = some (.ref g)) (hk : PySem.W.keepIn X.K (.ref g) = true)
    (lk : X.K.lookup g = some ⟨oc, od, .func (PySem.W.fnOf x x pg bg sg dV kV doc pm an cdv ct), osl⟩) (hcg : PySem.W.codeIn X.K cdv x = true) (hb : L2.Binds X.K (PySem.W.fnOf x x pg bg sg dV kV doc pm an cdv ct) [a] []) (Sg : FnScope Ng [a] sg) (hNg : Ng[0]? = some a) (hva : Vis sg a)
    (hG : LamX.GivesTo X Ng x sg g cdv bg a q (TTh X.K CB CR)) (TB : LamX.TabB X.base X.mg cc P) (hcode : X.env.code = .ref cc) (hq : X.env.qual ++ "<lambda>" = q) (hr : Room (k + 2) X.A) (L : LamX.LamS X.env.scope scope) (hdef : defaultsOf params X.env = ([], []))
    (hbind : ∀ (q : Str) (cl : List (Str × Addr)) (pm cv ctv : Value), bindArgs (PySem.W.kla_fn "<lambda>" q params body scope cl pm cv ctv) ⟨[], []⟩ = pure [])
    (hbody : ∀ (A : Around) (outer : List Env) (s : Shared) (H : Hp) (E : XK) (f' c' : Addr), Room k (A.deeper (LamX.lamEnv X scope s.heap.objs.size f' c')) → RE (LamX.lamCx X A outer s H E scope f' c') (WF E) body f)
    (hdb : (x == ("__debug__" : Str)) = false := by decide) (hd : (a == ("__debug__" : Str)) = false := by decide) (hcd : (a == ("__classdict__" : Str)) = false := by decide) :
    RE X W (.Call (.Name x p) [.Lambda params body scope lpos] [] pos) (eLam n P q CB CR f) := by
  refine ⟨tOfE X.K W (eLam n P q CB CR f), ⟨fun pins s σ H Q I h => ?_⟩, snd_ofE⟩
  obtain ⟨r, o, c, sl, hcl, hsl, hok⟩ := h
  unfold eLam at hok
  split at hok
  case isFalse => exact hok.elim
  rename_i htab
  have htab := hasTab_at htab
  refine wpAny_Call_Name_kw (ld_glob I hg hm ?_ hdb)
  refine PySem.W.callWith_K (h₀ := X.base) I.ok.mod.kin hk ?_ (by rfl) (by rfl)
  show wpAny _ _ (spliced ((false, eval (.Lambda params body scope lpos) X.env) :: backTo pos (starEach [] X.env))) _ _ s
  refine Calls.spliced_cons (lam_make3 I TB hcode hcl htab hq hdef (L.has I.ok) fun f' c' pm' ctv H1 s' I1 hc1 st1 hf hfn hfr hco => ?_)
  refine Calls.spliced_nil ⟨I1.kIn, ?_⟩
  subst hq
  have rc : codeAny (model X.prog X.w) X.A (.call (.ref g) ⟨[.ref f'], []⟩) (L2.CR C8.CX0 X.stack X.prog X.w H1 s' Q C8.E0) s' := by
    refine LamX.run_ofS (N := Ng) (ps := [a]) (us := [.ref f']) (vs := [.ref f']) lk hcg Sg hr I1.env0 (hb s' [.ref f'] I1.kIn rfl) (.cons rfl .nil) rfl fun hr' => ?_
    obtain ⟨t', ht', hq'⟩ := hG f' c' s' H1 Q (fun E H' Q' => tOfE X.K (WF E) f σ H' Q') (fun W pn xe E p1 p2 tk hW => LamX.pe_act (i := 0) I1 L hf hfn hfr (hbind _ _ _ _ _) tk hW hr' (fun A outer s H hr2 => (hbody A outer s H E f' c' hr2).canon) hNg hva hd hcd) hco
      ⟨r, o, c, fun c => f sl c, hc1, fun r2 H2 E2 Q2 st2 hc2 q2 => ⟨r2, o, c, sl, hc2, (hsl.mono st1).mono st2, by
        have q2 : OkG X.K (WF E2) (Is X.K) r2 o H2 [] Q2 (f sl c) := q2
        cases e : f sl c with
        | ok d c' => rw [e] at q2; exact q2
        | err x c' => rw [e] at q2; exact q2
        | bad => rw [e] at q2; exact q2⟩, by
        show OkG X.K _ (Is X.K) r o H1 [] Q (heardR CB CR (f sl c))
        cases e : heardR CB CR (f sl c) with
        | ok d c' => rw [e] at hok; exact OkG.step (x := Res.ok d c') st1 hok
        | err x c' =>
          exfalso
          cases e2 : f sl c with
          | ok d c2 => rw [e2] at e; cases e
          | bad => rw [e2] at e; cases e
          | err x2 c2 =>
            rw [e2] at e
            unfold heardR at e
            simp only at e
            split at e
            · split at e
              · cases e
              · split at e
                · cases e
                · cases e
            · cases e
        | bad => rw [e] at hok; exact hok⟩
    exact ⟨t', ht'.nox, hq'⟩
  refine wpAny_call (codeAny_mono rc fun r s2 hq => ?_)
  cases r with
  | error e => exact (show False from hq).elim
  | ok fl =>
    cases fl with
    | ret u => exact I1.after hq
    | next => exact False.elim hq
    | brk => exact False.elim hq
    | cont => exact False.elim hq
end
end RL

set_option Elab.async false
set_option linter.all false
set_option maxRecDepth 100000
set_option maxHeartbeats 4000000
namespace RL
open PySem PySem.Spec PyProof.Rows L2
/-! ### some more rules -/
section
variable {X : Cx} {W : WX} {K : PySem.W.Frag}
def oMulA : D → D → Cs → Res D := fun d e c => match d with | .tup _ => oMulT d e c | _ => oMul d e c
theorem ro_mulA {X : Cx} : RO X W (binaryOp .Mult) oMulA := by
  obtain ⟨q1, h1, h2⟩ := ro_mul (X := X) (W := W)
  obtain ⟨q2, h3, h4⟩ := ro_mulT (X := X) (W := W)
  refine ⟨_, h1.or h3, fun r o c H t Q d e x y hc hd he h => ?_⟩
  cases d with
  | tup l => exact .inr (h4 r o c H t Q _ e x y hc hd he h)
  | _ => exact .inl (h2 r o c H t Q _ e x y hc hd he h)
def eNeg (f : FE) : FE := fun s c => (f s c).bind fun d c1 => match d with | .int i => .ok (.int (-i)) c1 | _ => .bad
theorem re_neg {e : Expr} {f : FE} {pos : Pos} (h : RE X W e f) : RE X W (.UnaryOp .USub e pos) (eNeg f) := by
  obtain ⟨_, h1, h2⟩ := h
  refine ⟨_, pe_un un_neg h1, fun r o c s H t Q hc hs q => h2 r o c s H t _ hc hs (ok_bind q fun d c1 r1 H1 v s1 hc1 hv q1 => ?_)⟩
  split at q1
  · exact ⟨_, hv.int_inv, q1.here hc1 .int⟩
  · exact q1.elim
/-- x += e, ints -/
def sAug (i : Nat) (f : FE) : FS := fun s c => match s[i]? with
  | some (some (.int a)) => (f s c).toS s fun d c1 => (match d with | .int b => .nx (s.set i (some (.int (a + b)))) c1 | _ => .bad)
  | _ => .bad
theorem rs_aug {i : Nat} {x : Str} {e : Expr} {f : FE} {p pos : Pos} (hN : X.N.Nodup) (hi : X.N[i]? = some x) (hx : Loc X.env.scope x) (he : RE X W e f) (hf : X.fn x = true ∨ X.env.scope.names.lookup x = some .local := by first | exact .inl rfl | exact .inr rfl | assumption) :
    RS X W (.AugAssign (.Name x p) .Add e pos) (sAug i f) := by
  obtain ⟨_, h1, h2⟩ := he
  refine ⟨_, ps_aug hN hi hx h1 in_add hf, fun r o c s H t D hc hs h => ?_⟩
  unfold sAug at h
  cases e1 : s[i]? with
  | none => simp only [e1] at h; exact h.elim
  | some z =>
    cases z with
    | none => simp only [e1] at h; exact h.elim
    | some d =>
      cases d with
      | int a =>
        simp only [e1] at h
        obtain ⟨v, hv1, hv2⟩ := hs.2 i _ e1
        refine ⟨v, hv1, h2 r o c s H t _ hc hs (ok_toS hs h fun d c1 r1 H1 w s1 hc1 hw q => ?_)⟩
        split at q
        · rename_i b
          exact ⟨a, b, hv2.int_inv, hw.int_inv, q _ _ _ Step.refl hc1 ((hs.mono s1).set i .int)⟩
        · exact q.elim
      | _ => simp only [e1] at h; exact h.elim
/-! ### constants of the module -/
theorem kon_int {mg : Str → Option Value} {x : Str} {i : Int} (h : ∃ t, mg x = some (.int i t)) : KonD K mg x (.int i) := by
  obtain ⟨t, h⟩ := h
  exact ⟨.int i, _, h, ⟨t, rfl⟩, fun _ _ _ => .int⟩
theorem kon_str {mg : Str → Option Value} {x : Str} {i : Str} (h : ∃ t, mg x = some (.str i t)) : KonD K mg x (.str i) := by
  obtain ⟨t, h⟩ := h
  exact ⟨.str i, _, h, ⟨t, rfl⟩, fun _ _ _ => .str⟩
/-- a written tuple of ints, texts -/
def dvD : He.Dv → D
  | .int i => .int i
  | .str x => .str x
  | .bl b => .bl b
  | _ => .non
def dvOk : He.Dv → Bool
  | .int _ => true
  | .str _ => true
  | .bl _ => true
  | .non => true
  | _ => false
theorem isL_dv {r o : List Addr} {H : Hp} : ∀ {vs : List He.Dv}, vs.all dvOk = true → IsL K r o H (vs.map dvD) (vs.map (He.Dv.v K))
  | [], _ => .nil
  | d :: ds, h => by
    obtain ⟨h1, h2⟩ := Bool.and_eq_true_iff.mp (show (dvOk d && ds.all dvOk) = true from h)
    refine .cons ?_ (isL_dv h2)
    cases d with
    | non => exact .non
    | bl b => exact .bl
    | int i => exact .int
    | str x => exact .str
    | _ => cases h1
theorem kon_tup {mg : Str → Option Value} {x : Str} {vs : List He.Dv} (hm : mg x = some (.ref (He.ga K x))) (h : He.tupB K x vs = true) (hd : vs.all dvOk = true) : KonD K mg x (.tup (vs.map dvD)) := by
  refine ⟨.ref (He.ga K x), _, hm, rfl, fun r o H => .tup ?_ (isL_dv hd)⟩
  rcases He.tupB_ok h (fun _ => none) with q | q
  · rcases q with z | ⟨_, z⟩ <;> cases z
  · exact .inr q
end
/-! ### defs by the head's facts -/
section
variable {P : Program} {w : World} {K : PySem.W.Frag} {mg : Str → Option Value} {base : Heap}
theorem fn_mkD {x qual : Str} {params : Arguments} {body : List Stmt} {scope : Scope} {f : Addr} {fd : FuncData} {N ps : List Str} {n m k : Nat} {b : FS} (F : FunD K x qual params body scope [] [] f fd) (S : FnScope N ps scope) (hn : ps.length = n) (hm : N.length = m)
    (hb : ∀ (cc : Addr) (A : Around) (outer : List Env) (s : Shared) (H : Hp) (E : XK), (∃ oc od osl, K.lookup f = some ⟨oc, od, .func fd, osl⟩ ∧ fd.code = .ref cc) → Room k (A.deeper (envOfC qual scope s.heap.objs.size f (.ref cc))) →
      RSs (cxOf (L2.CX P w) P w K mg base N qual scope f (.ref cc) A outer s H E) (WF E) body b) :
    FnOk P w K mg base (L2.CX P w) (k + 1) f fd ps (spR K (mkF n m b)) := by
  obtain ⟨oc, od, dV, kV, doc, pm, an, cdv, ct, osl, rfl, lk, hcd, _, _⟩ := F.ex
  obtain ⟨cc, rfl⟩ := He.codeIn_ref hcd
  refine fn_of lk hcd S (fun vs H Q E h => ?_) fun A outer s H vs Q E hr h => ?_
  · obtain ⟨r, o, c, ds, hc, hv, q⟩ := h
    unfold mkF at q
    by_cases e : ds.length = n
    · rw [← hv.length, e, hn]
    · rw [if_neg e] at q; exact q.elim
  · obtain ⟨r, o, c, ds, hc, hv, q⟩ := h
    obtain ⟨t, h1, h2⟩ := hb cc A outer s H E ⟨oc, od, osl, lk, rfl⟩ hr
    refine ⟨t, h1, ?_⟩
    unfold mkF at q
    by_cases e : ds.length = n
    · rw [if_pos e] at q
      refine h2 r o c (startD n m ds) H (start N vs) _ hc (SlOk.start hv hm e) ?_
      cases e2 : b (startD n m ds) c with
      | nx s' c' => rw [e2] at q; exact fun r' H' t' st hc' hs' => q r' H' .non st hc' .non
      | rt d c' => rw [e2] at q; exact fun r' H' v st hc' hv' => q r' H' v st hc' hv'
      | err x s' c' => rw [e2] at q; exact fun r' H' t' cls dx st hc' hs' hx => q r' H' cls dx st hc' hx
      | bk s' c' => rw [e2] at q; exact q.elim
      | ct s' c' => rw [e2] at q; exact q.elim
      | bad => rw [e2] at q; exact q.elim
    · rw [if_neg e] at q; exact q.elim
/-- a def of the module, as the head tells it -/
structure DefAt (K : PySem.W.Frag) (mg : Str → Option Value) (x : Str) (params : Arguments) (body : List Stmt) (scope : Scope) : Prop where
  d : ∃ fd, FunD K x x params body scope [] [] (He.ga K x) fd
  g : mg x = some (.ref (He.ga K x))
theorem ready_mk {x : Str} {params : Arguments} {body : List Stmt} {scope : Scope} {N ps : List Str} {n m k : Nat} {b : FS} (D : DefAt K mg x params body scope) (S : FnScope N ps scope) (hn : ps.length = n) (hm : N.length = m)
    (hbind : ∀ (kV doc pm : Value) (an : Option Addr) (cdv ct : Value) (us : List Value), us.length = ps.length → bindArgs (PySem.W.fnOf x x params body scope .none kV doc pm an cdv ct) ⟨us, []⟩ = pure (ps.zip us))
    (hb : ∀ (cc : Addr) (A : Around) (outer : List Env) (s : Shared) (H : Hp) (E : XK), cc = He.codeOf K (x, none) → Room k (A.deeper (envOfC x scope s.heap.objs.size (He.ga K x) (.ref cc))) →
      RSs (cxOf (L2.CX P w) P w K mg base N x scope (He.ga K x) (.ref cc) A outer s H E) (WF E) body b) : Ready P w K mg base (k + 1) x (mkF n m b) := by
  obtain ⟨fd, F⟩ := D.d
  refine ⟨He.ga K x, fd, ps, fn_mkD F S hn hm fun cc A outer s H E ⟨oc, od, osl, lk, e⟩ hr => hb cc A outer s H E ?_ hr, D.g, F.kp, F.bindsN hbind⟩
  exact (He.codeOf_eq (p := (x, none)) lk e).symm
theorem ready_bad {x : Str} {params : Arguments} {body : List Stmt} {scope : Scope} {ps : List Str} (D : DefAt K mg x params body scope) {k : Nat}
    (hbind : ∀ (kV doc pm : Value) (an : Option Addr) (cdv ct : Value) (us : List Value), us.length = ps.length → bindArgs (PySem.W.fnOf x x params body scope .none kV doc pm an cdv ct) ⟨us, []⟩ = pure (ps.zip us)) : Ready P w K mg base k x (fun _ _ => .bad) := by
  obtain ⟨fd, F⟩ := D.d
  refine ⟨He.ga K x, fd, ps, ⟨fun vs H Q E h => ?_, fun A outer s H args us vs Q E _ _ _ _ h => ?_⟩, D.g, F.kp, F.bindsN hbind⟩
  · obtain ⟨_, _, _, _, _, _, q⟩ := h
    exact q.elim
  · obtain ⟨_, _, _, _, _, _, q⟩ := h
    exact q.elim
/-- the def that tells of errors -/
def HeardFn (K : PySem.W.Frag) (mg : Str → Option Value) (x : Str) (CB CR : Addr) : Prop := ∃ (g : Addr) (pg : Arguments) (bg : List Stmt) (sg : Scope) (dV kV doc pm cdv ct oc : Value) (an od : Option Addr) (osl : Array (Option Value)), mg x = some (.ref g) ∧ PySem.W.keepIn K (.ref g) = true ∧
  K.lookup g = some ⟨oc, od, .func (PySem.W.fnOf x x pg bg sg dV kV doc pm an cdv ct), osl⟩ ∧ PySem.W.codeIn K cdv x = true ∧ L2.Binds K (PySem.W.fnOf x x pg bg sg dV kV doc pm an cdv ct) [("ask" : Str)] [] ∧ FnScope [("ask" : Str), "e"] ["ask"] sg ∧ Vis sg "ask" ∧
  ∀ (X : Cx) (q : Str), X.K = K → X.mg = mg → LamX.GivesTo X ["ask", "e"] x sg g cdv bg "ask" q (TTh K CB CR)
theorem heard_mk {x : Str} {params : Arguments} {body : List Stmt} {scope : Scope} {CB CR : Addr} (D : DefAt K mg x params body scope) (S : FnScope [("ask" : Str), "e"] ["ask"] scope) (hv : Vis scope "ask")
    (hbind : ∀ (kV doc pm : Value) (an : Option Addr) (cdv ct : Value) (us : List Value), us.length = 1 → bindArgs (PySem.W.fnOf x x params body scope .none kV doc pm an cdv ct) ⟨us, []⟩ = pure ([("ask" : Str)].zip us))
    (hG : ∀ (X : Cx) (q : Str) (g : Addr) (cdg : Value), X.K = K → X.mg = mg → LamX.GivesTo X ["ask", "e"] x scope g cdg body "ask" q (TTh K CB CR)) : HeardFn K mg x CB CR := by
  obtain ⟨fd, F⟩ := D.d
  have hb := F.bindsN (ps := ["ask"]) hbind
  have kp := F.kp
  obtain ⟨oc, od, dV, kV, doc, pm, an, cdv, ct, osl, rfl, lk, hcd, _, _⟩ := F.ex
  exact ⟨He.ga K x, params, body, scope, dV, kV, doc, pm, cdv, ct, oc, an, od, osl, D.g, kp, lk, hcd, hb, S, hv, fun X q h1 h2 => hG X q _ _ h1 h2⟩
end
section
variable {X : Cx} {W : WX}
theorem re_lamH {x : Str} {cc T : Addr} {k j n : Nat} {q : Str} {CB CR : Addr} {f : FE} {params : Arguments} {body : Expr} {scope : Scope} {p lpos pos : Pos} (h : HeardFn X.K X.mg x CB CR) (hg : Gl X x) (TB : LamX.TabB X.base X.mg cc T) (hcode : X.env.code = .ref cc) (hq : X.env.qual ++ "<lambda>" = q) (hr : Room j X.A) (hj : k + 2 ≤ j)
    (L : LamX.LamS X.env.scope scope) (hdef : defaultsOf params X.env = ([], [])) (hbind : ∀ (q : Str) (cl : List (Str × Addr)) (pm cv ctv : Value), bindArgs (PySem.W.kla_fn "<lambda>" q params body scope cl pm cv ctv) ⟨[], []⟩ = pure [])
    (hbody : ∀ (A : Around) (outer : List Env) (s : Shared) (H : Hp) (E : XK) (f' c' : Addr), Room k (A.deeper (LamX.lamEnv X scope s.heap.objs.size f' c')) → RE (LamX.lamCx X A outer s H E scope f' c') (WF E) body f) (hdb : (x == ("__debug__" : Str)) = false := by decide) :
    RE X W (.Call (.Name x p) [.Lambda params body scope lpos] [] pos) (eLam n T q CB CR f) := by
  obtain ⟨g, pg, bg, sg, dV, kV, doc, pm, cdv, ct, oc, an, od, osl, h1, h2, h3, h4, h5, h6, h7, h8⟩ := h
  exact re_lam hg h1 h2 h3 h4 h5 h6 rfl h7 (h8 X q rfl rfl) TB hcode hq (hr.mono hj) L hdef hbind hbody hdb
end
end RL

set_option Elab.async false
set_option linter.all false
set_option maxRecDepth 100000
set_option maxHeartbeats 4000000
namespace RL
open PySem PySem.Spec PyProof.Rows L2
open He (ga ma ba eqO eqO_ok)
/-! ### facts of error classes, decided -/
def oexB (K : PySem.W.Frag) (C : Addr) : Bool := match K.lookup C with
  | some ⟨.type t, _, .cls cd, sl⟩ => decide (t = "type") && (match cd.mro, sl.toList with
    | .ref C' :: bm, [_, _, _, _, some (.builtin n), _] => decide (C' = C) && (decide (n = "ValueError.__new__") && (!cd.hasDel && (cd.hasDict && PySem.HandSPX.refsVE bm)))
    | _, _ => false)
  | _ => false
theorem oexB_ok {K : PySem.W.Frag} {C : Addr} (h : oexB K C = true) : ∃ nm q N bs bm sn sub ab col dd k0 k1 k2 k3 k5, K.lookup C = some (excClassObj nm q C N bs bm true sn sub ab col dd k0 k1 k2 k3 k5 "ValueError.__new__") ∧ PySem.HandSPX.refsVE bm = true := by
  unfold oexB at h
  split at h
  · rename_i t dd cd sl hl
    obtain ⟨h1, h⟩ := ba h
    split at h
    · rename_i C' bm a0 a1 a2 a3 n a5 e1 e2
      obtain ⟨h2, h⟩ := ba h
      obtain ⟨h3, h⟩ := ba h
      obtain ⟨h4, h⟩ := ba h
      obtain ⟨h5, h6⟩ := ba h
      obtain ⟨nm, bs, mro, ns, q, hd, sn, sb, ab, col, del⟩ := cd
      have e3 := of_decide_eq_true h1
      have e4 := of_decide_eq_true h2
      have e5 := of_decide_eq_true h3
      simp only at e1 h4 h5
      subst e1 e3 e4 e5 h5
      have e6 : del = false := by simpa using h4
      subst e6
      refine ⟨nm, q, ns, bs, bm, sn, sb, ab, col, dd, a0, a1, a2, a3, a5, ?_, h6⟩
      rw [hl]
      have e7 : sl = #[a0, a1, a2, a3, some (.builtin "ValueError.__new__"), a5] := by
        rw [← Array.toArray_toList (xs := sl), e2]
      rw [e7]
    · cases h
  · cases h
/-- the facts of an error class x under b, whose field is fn -/
def clsB (K : PySem.W.Frag) (x b fn : Str) : Bool :=
  oexB K (ga K x) && (eqO (PySem.W.findIn K (.ref (ga K x)) "__setattr__") (some (some (.builtin "object.__setattr__"))) && (decide (PySem.W.subIn K (.ref (ga K x)) (.type "BaseException") = some true) &&
  (decide (PySem.W.typeIn K (.ref (ga K x)) = some (.type "type")) && (PySem.W.keepIn K (.ref (ga K x)) && (eqO (PySem.W.findIn K (.ref (ga K x)) fn) (some none) &&
  (eqO (PySem.W.findIn K (.ref (ga K x)) "__init__") (some (some (.ref (ma K (ga K x) "__init__")))) && (decide (PySem.W.typeIn K (.ref (ma K (ga K x) "__init__")) = some (.type "function")) && (xfB K (ga K x) &&
  (eqO (PySem.W.findIn K (.ref (ga K x)) "__class__") (some (some (.builtin "object.__class__"))) && (eqO (PySem.W.specialIn K (.builtin "object.__class__") "__get__") (some (some (.builtin "getset_descriptor.__get__"))) &&
  (decide (PySem.W.takesIn K (.builtin "object.__class__") = some true) && (decide (PySem.W.mroIn K (ga K x) (.type "object") = some true) && (decide (PySem.W.kitOne K (.ref (ga K x)) (.ref (ga K b)) = some true) &&
  (decide (PySem.W.kitOne K (.ref (ga K x)) (.type "ValueError") = some true) && (decide (PySem.W.mroIn K (ga K x) (.ref (ga K x)) = some true) && (decide (PySem.W.subIn K (.ref (ga K x)) (.type "ValueError") = some true) &&
  eqO (PySem.W.ks_superIn K (ga K x) (ga K x) "__init__") (some (some (.builtin "ValueError.__init__")))))))))))))))))))
structure ClsFacts (K : PySem.W.Frag) (x b fn : Str) : Prop where
  T : OexC K (ga K x)
  no : PySem.W.findIn K (.ref (ga K x)) fn = some none
  iC : PySem.W.findIn K (.ref (ga K x)) "__init__" = some (some (.ref (ma K (ga K x) "__init__")))
  tI : PySem.W.typeIn K (.ref (ma K (ga K x) "__init__")) = some (.type "function")
  cl : ClsTxt K (ga K x) (ga K b) fn
  self : PySem.W.mroIn K (ga K x) (.ref (ga K x)) = some true
  sub : PySem.W.subIn K (.ref (ga K x)) (.type "ValueError") = some true
  sup : PySem.W.ks_superIn K (ga K x) (ga K x) "__init__" = some (some (.builtin "ValueError.__init__"))
theorem clsB_ok {K : PySem.W.Frag} {x b fn : Str} (h : clsB K x b fn = true) : ClsFacts K x b fn := by
  unfold clsB at h
  obtain ⟨h1, h⟩ := ba h
  obtain ⟨h2, h⟩ := ba h
  obtain ⟨h3, h⟩ := ba h
  obtain ⟨h4, h⟩ := ba h
  obtain ⟨h5, h⟩ := ba h
  obtain ⟨h6, h⟩ := ba h
  obtain ⟨h7, h⟩ := ba h
  obtain ⟨h8, h⟩ := ba h
  obtain ⟨h9, h⟩ := ba h
  obtain ⟨h10, h⟩ := ba h
  obtain ⟨h11, h⟩ := ba h
  obtain ⟨h12, h⟩ := ba h
  obtain ⟨h13, h⟩ := ba h
  obtain ⟨h14, h⟩ := ba h
  obtain ⟨h15, h⟩ := ba h
  obtain ⟨h16, h⟩ := ba h
  obtain ⟨h17, h18⟩ := ba h
  have xf := xfB_ok h9
  exact ⟨⟨oexB_ok h1, eqO_ok h2, of_decide_eq_true h3, of_decide_eq_true h4, h5⟩, eqO_ok h6, eqO_ok h7, of_decide_eq_true h8,
    ⟨xf, ⟨xf.ga, xf.gg, xf.exC, xf.hdC, eqO_ok h10, eqO_ok h11, of_decide_eq_true h12, of_decide_eq_true h13⟩, eqO_ok h6, of_decide_eq_true h14, of_decide_eq_true h15⟩, of_decide_eq_true h16, of_decide_eq_true h17, eqO_ok h18⟩
/-! ### an error class's own __init__ -/
abbrev FnI : Type := Option (Str × Str × Arguments × FuncBody × Scope × Addr × List Str × Value × Value × Addr)
def fnI (K : PySem.W.Frag) (x : Str) : FnI := match K.lookup (ma K (ga K x) "__init__") with
  | some ⟨_, _, .func fd, _⟩ => some (fd.name, fd.qualname, fd.params, fd.body, fd.scope, fd.globals, fd.closure.map (·.1), fd.defaults, fd.kwdefaults, fd.builtins)
  | _ => none
structure IniD where
  cls : Str
  params : Arguments
  body : List Stmt
  scope : Scope
def IniD.val (d : IniD) : FnI := some ("__init__", d.cls ++ ".__init__", d.params, .stmts d.body, d.scope, mainGlobals, ["__class__"], .none, .none, builtinsNs)
/-- its cell and its code object -/
def iniB (file : Str) (K : PySem.W.Frag) (x : Str) : Bool := match K.lookup (ma K (ga K x) "__init__") with
  | some ⟨_, _, .func fd, _⟩ => PySem.W.codeIn K fd.code (x ++ ".__init__") && ((match fd.closure with
    | [(_, cc)] => (match K.lookup cc with
      | some ⟨_, _, .cell (some (.ref D)), _⟩ => decide (D = ga K x)
      | _ => false)
    | _ => false) && (match fd.code with
    | .ref cda => (match K.lookup cda with
      | some ⟨_, _, .fields vs, _⟩ => (match (vs[2]? : Option Value) with
        | some (.str f _) => (file == f)
        | _ => false)
      | _ => false)
    | _ => false))
  | _ => false
theorem own_txt {prog : Program} {K : PySem.W.Frag} {mg : Str → Option Value} {base : Heap} {d : IniD} {b fn pre : Str} {j : Nat} {p1 p2 q1 q2 q3 q4 q5 q6 q7 q8 q9 r1 r2 r3 r4 : Pos} (F : ClsFacts K d.cls b fn) (gC : mg d.cls = some (.ref (ga K d.cls))) (e : fnI K d.cls = d.val) (hi : iniB prog.main.file K d.cls = true) (nsup : mg "super" = none)
    (any : PySem.W.nsIn K cStatics "thirdparty.any" = some none) (top : (prog.main.scope.names.lookup ("super" : Str)).isSome = false) (hA : d.params = PySem.OwnX.oA fn p1 p2) (hB : d.body = PySem.OwnX.oB fn pre j q1 q2 q3 q4 q5 q6 q7 q8 q9 r1 r2 r3 r4) (hS : d.scope = PySem.OwnX.oS fn)
    (hE : PySem.OwnX.EvM (.Call (.Name "super" q1) [] [] q2) "__init__" q3 q8 [.JoinedStr [.Constant (.str pre) j q4, .FormattedValue (.Name fn q5) (-1) none q6] q7]) :
    ∃ cc cda, PySem.OwnX.OwnTxt prog K mg base d.cls fn pre (ga K d.cls) (ma K (ga K d.cls) "__init__") cc cda := by
  unfold fnI IniD.val at e
  unfold iniB at hi
  cases q : K.lookup (ma K (ga K d.cls) "__init__") with
  | none => rw [q] at e; cases e
  | some o =>
    obtain ⟨oc, od, dt, osl⟩ := o
    rw [q] at e hi
    cases dt with
    | func fd =>
      obtain ⟨n1, n2, n3, n4, n5, n6, n7, n8, n9, n10, n11, n12, n13, n14, n15⟩ := fd
      simp only [Option.some.injEq, Prod.mk.injEq] at e
      obtain ⟨e1, e2, e3, e4, e5, e6, e7, e8, e9, e10⟩ := e
      simp only at hi
      obtain ⟨h1, h2⟩ := ba hi
      obtain ⟨h3, h4⟩ := ba h2
      rw [hA] at e3
      rw [hB] at e4
      rw [hS] at e5
      subst e1 e2 e3 e4 e5 e6 e8 e9 e10
      cases n7 with
      | nil => cases h3
      | cons p ps =>
        cases ps with
        | cons p2 ps2 => cases h3
        | nil =>
          obtain ⟨nm, cc⟩ := p
          simp only [List.map_cons, List.map_nil, List.cons.injEq, and_true] at e7
          subst e7
          cases n13 with
          | ref cda =>
            simp only at h3 h4
            refine ⟨cc, cda, ⟨gC, F.T, F.no, F.iC, F.tI, F.cl.xf, ⟨oc, od, n10, n11, n12, n14, osl, j, p1, p2, q1, q2, q3, q4, q5, q6, q7, q8, q9, r1, r2, r3, r4, q, hE⟩, h1, ?_, ?_, F.sup, F.sub, F.self, nsup, any, top⟩⟩
            · split at h3
              · rename_i a b D c hl
                have := of_decide_eq_true h3
                subst this
                exact ⟨_, _, _, hl⟩
              · cases h3
            · split at h4
              · rename_i a b vs c hl
                split at h4
                · rename_i f t hv
                  exact ⟨_, _, _, _, _, _, hl, hv, h4⟩
                · cases h4
              · cases h4
          | _ => cases h4
    | _ => cases e
/-! ### the Hook -/
def frR (g : Addr → Option Obj) (n : Nat) : PySem.W.Frag := He.frT g (cStatics :: He.asD g n)
structure SaysR (fa : List He.Fa) (fn : List He.DefD) (ini : List IniD) (tf : List He.Defn) (ex : PySem.W.Frag → Bool) (h : Heap) (K : PySem.W.Frag) : Prop where
  d : He.SaysD fa fn K
  i : ini.map (fun d => fnI K d.cls) = ini.map IniD.val
  more : ex K = true
  hd : ∀ p ∈ tf, PySem.W.codeHdIn K (He.cT K p).1 (He.cT K p).2 = true
  out : ∀ p ∈ tf, K.lookup (He.cT K p).2 = none
  empty : ∀ p ∈ tf, h.get? (He.cT K p).2 = some { cls := .none, data := .fields #[] }
abbrev AlR : Type := He.AlD × List FnI × Bool
def obsR (n : Nat) (fa : List He.Fa) (fn : List He.DefD) (ini : List IniD) (tf : List He.Defn) (ex : PySem.W.Frag → Bool) (g : Addr → Option Obj) : AlR := (He.obsD fa fn (frR g n), ini.map (fun d => fnI (frR g n) d.cls), ex (frR g n) && He.tabsB g tf (frR g n))
def valR (fn : List He.DefD) (ini : List IniD) : AlR := (He.valD fn, ini.map IniD.val, true)
theorem saysR_of {n : Nat} {fa : List He.Fa} {fn : List He.DefD} {ini : List IniD} {tf : List He.Defn} {ex : PySem.W.Frag → Bool} {h : Heap} (e : obsR n fa fn ini tf ex h.get? = valR fn ini) : SaysR fa fn ini tf ex h (frR h.get? n) := by
  have e1 : He.obsD fa fn (frR h.get? n) = He.valD fn := congrArg (fun z : AlR => z.1) e
  have e2 : ini.map (fun d => fnI (frR h.get? n) d.cls) = ini.map IniD.val := congrArg (fun z : AlR => z.2.1) e
  have e3 : (ex (frR h.get? n) && He.tabsB h.get? tf (frR h.get? n)) = true := congrArg (fun z : AlR => z.2.2) e
  obtain ⟨h1, h2⟩ := ba e3
  have key : ∀ p ∈ tf, PySem.W.codeHdIn (frR h.get? n) (He.cT (frR h.get? n) p).1 (He.cT (frR h.get? n) p).2 = true ∧ ∃ o, h.get? (He.cT (frR h.get? n) p).2 = some o ∧ He.emptyTab o = true := fun p hp => by
    obtain ⟨h3, h4⟩ := ba (List.all_eq_true.mp h2 p hp)
    refine ⟨h3, ?_⟩
    cases q : h.get? (He.cT (frR h.get? n) p).2 with
    | none => rw [q] at h4; cases h4
    | some o => rw [q] at h4; exact ⟨o, rfl, h4⟩
  exact ⟨e1, e2, h1, fun p hp => (key p hp).1, fun p hp => by
    obtain ⟨_, o, q, z⟩ := key p hp
    exact He.frT_none q z, fun p hp => by
    obtain ⟨_, o, q, z⟩ := key p hp
    rw [q, He.emptyTab_eq z]⟩
def hookR (n : Nat) (fa : List He.Fa) (fn : List He.DefD) (ini : List IniD) (tf : List He.Defn) (ex : PySem.W.Frag → Bool) : PySem.W.Hook where
  α := AlR
  obs := fun s => obsR n fa fn ini tf ex s.heap.get?
  val := fun _ => valR fn ini
  says := fun _ h => ∃ K : PySem.W.Frag, K.In h ∧ SaysR fa fn ini tf ex h K
  of := fun _ _ e => ⟨_, He.frT_in, saysR_of e⟩
  keeps := fun _ _ _ ⟨K, hK, c⟩ k => ⟨K, PySem.W.Frag.In.keeps hK k, ⟨c.d, c.i, c.more, c.hd, c.out, fun p hp => k _ _ (c.empty p hp)⟩⟩
theorem obsR_eq {n : Nat} {fa : List He.Fa} {fn : List He.DefD} {ini : List IniD} {tf : List He.Defn} {ex : PySem.W.Frag → Bool} {g : Addr → Option Obj} {s : Shared} (h : ∀ a, g a = s.heap.get? a) : obsR n fa fn ini tf ex g = (hookR n fa fn ini tf ex).obs s := by
  have e : g = s.heap.get? := funext h
  rw [e] <;> rfl
theorem SaysR.ini {fa : List He.Fa} {fn : List He.DefD} {ini : List IniD} {tf : List He.Defn} {ex : PySem.W.Frag → Bool} {h : Heap} {K : PySem.W.Frag} (c : SaysR fa fn ini tf ex h K) (i : Nat) {d : IniD} (e : ini[i]? = some d := by rfl) : fnI K d.cls = d.val := by
  have e2 : (ini.map fun d => fnI K d.cls)[i]? = (ini.map IniD.val)[i]? := by rw [c.i]
  rw [List.getElem?_map, List.getElem?_map, e] at e2
  exact Option.some.inj e2
theorem SaysR.at {fa : List He.Fa} {fn : List He.DefD} {ini : List IniD} {tf : List He.Defn} {ex : PySem.W.Frag → Bool} {h base : Heap} {K : PySem.W.Frag} {mg : Str → Option Value} (X : K.In base) (G : base.Ns mainGlobals mg) (c : SaysR fa fn ini tf ex h K) {x : Str} {params : Arguments} {body : List Stmt} {scope : Scope} (i j : Nat) (e : fn[i]? = some ⟨(x, none), x, x, params, body, scope, [], []⟩ := by rfl) (e2 : fa[j]? = some (.glo x) := by rfl) : DefAt K mg x params body scope :=
  ⟨c.d.def_ i e, He.glo_ok X G (c.d.fact j e2)⟩
/-! ### the law's end -/
/-- the first cells: the tables -/
def cells0 (K : PySem.W.Frag) (tf : List (He.Defn × Str)) : Cs := tf.map fun p => .tab (He.cT K p.1).2 p.2
theorem cells0_ok {K : PySem.W.Frag} {H : Hp} {tf : List (He.Defn × Str)} (hn : (tf.map fun p => (He.cT K p.1).2).Nodup) (hT : ∀ p ∈ tf, H (He.cT K p.1).2 = some (.tbl #[])) : Cells K (tf.map fun p => (He.cT K p.1).2) [] (cells0 K tf) H := by
  refine ⟨by simp [cells0], hn, fun a _ => by simp, fun a ha => absurd ha (by simp), fun n a x e1 e2 => ?_⟩
  unfold cells0 at e2
  rw [List.getElem?_map] at e1 e2
  cases e : tf[n]? with
  | none => rw [e] at e1; cases e1
  | some p =>
    rw [e] at e1 e2
    cases e1; cases e2
    refine ⟨rfl, #[], hT p (List.mem_of_getElem? e), trivial, fun pos cv h => ?_⟩
    have z : codeAmong pos [] = some cv := h
    simp [codeAmong] at z
theorem isl_ints {K : PySem.W.Frag} {r o : List Addr} {H : Hp} : ∀ ns : List Int, IsL K r o H (ns.map D.int) (ns.map V.int)
  | [] => .nil
  | _ :: ns => .cons .int (isl_ints ns)
theorem law_at {l : PySem.W.OpenLaw} {w : World} {K : PySem.W.Frag} {k n : Nat} {x : Str} {mg : Str → Option Value} {fa : Addr} {h : Heap} {tf : List (He.Defn × Str)} {fdef : List He.Fa} {fn : List He.DefD} {ini : List IniD} {ex : PySem.W.Frag → Bool} {F : PySem.W.Frag → FN} {fd : FuncData}
    (KX : K.In h) (c : SaysR fdef fn ini (tf.map (·.1)) ex h K) (hnd : (tf.map fun p => (He.cT K p.1).2).Nodup) (hb : ∀ (s : Shared) (u : Value), BindsTo s fd ⟨[u], []⟩ [(x, u)])
    (hlaw : ∀ ns : List Int, ns.length ≤ n → (∀ z ∈ ns, Builtin.Int.intBits z ≤ 1048576) → ∃ c', F K [.scr (ns.map D.int)] (cells0 K tf) = .ok (.bl true) c')
    (hF : ∀ base : Heap, K.In base → base.Ns mainGlobals mg → (∀ p ∈ tf, LamX.TabB base mg (He.cT K p.1).1 (He.cT K p.1).2) → FnOk l.prog w K mg base (L2.CX l.prog w) k fa fd [x] (spR K (F K))) :
    LamX.LawAtS l w K (L2.CX l.prog w) k n x mg fa h := by
  have mem : ∀ p ∈ tf.map (fun p => He.cT K p.1), ∃ q ∈ tf.map (·.1), p = He.cT K q := fun p hp => by
    obtain ⟨q, hq, e⟩ := List.mem_map.mp hp
    exact ⟨q.1, List.mem_map.mpr ⟨q, hq, rfl⟩, e.symm⟩
  refine ⟨fd, tf.map (fun p => He.cT K p.1), spR K (F K), fun p hp => ?_, fun p hp => ?_, fun p hp => ?_, hb, fun H a ns hl hbits hT hS => ?_, fun base hK hN hTB => hF base hK hN fun p hp => hTB _ (List.mem_map.mpr ⟨p, hp, rfl⟩)⟩
  · obtain ⟨q, hq, rfl⟩ := mem p hp
    exact c.empty q hq
  · obtain ⟨q, hq, rfl⟩ := mem p hp
    exact c.out q hq
  · obtain ⟨q, hq, rfl⟩ := mem p hp
    exact PySem.W.codeHd_of_K KX (c.hd q hq)
  · obtain ⟨c', e⟩ := hlaw ns hl hbits
    have hT' : ∀ p ∈ tf, H (He.cT K p.1).2 = some (.tbl #[]) := fun p hp => hT (He.cT K p.1) (List.mem_map.mpr ⟨p, hp, rfl⟩)
    have hcl := cells0_ok hnd hT'
    refine ⟨_, [], _, [.scr (ns.map D.int)], hcl, .cons (.scr ?_ (isl_ints ns)) .nil, ?_⟩
    · rcases hS with z | z
      · refine .inl ⟨fun hm => ?_, by simp, z⟩
        obtain ⟨p, hp, ep⟩ := List.mem_map.mp hm
        have := hT' p hp
        rw [ep] at this
        rcases z with z | ⟨ob, z⟩ <;> rw [this] at z <;> cases z
      · exact .inr z
    · rw [e]
      exact fun r' H' v _ _ hv => hv.bl_inv
end RL

set_option Elab.async false
set_option linter.all false
set_option maxRecDepth 100000
set_option maxHeartbeats 4000000
namespace RL
open PySem PySem.Spec PyProof.Rows L2
theorem own_raise {P : Program} {K : PySem.W.Frag} {mg : Str → Option Value} {base : Heap} {cn fn pre : Str} {C fI : Addr} {φ : Prop} (h : ∃ cc cda, PySem.OwnX.OwnTxt P K mg base cn fn pre C fI cc cda) (k : ∀ {cc cda}, PySem.OwnX.OwnTxt P K mg base cn fn pre C fI cc cda → φ) : φ := by
  obtain ⟨cc, cda, h⟩ := h
  exact k h
theorem bt_len : bootBuiltins "len" = some (.builtin "len") := by kernel_rfl
theorem bt_min : bootBuiltins "min" = some (.builtin "min") := by kernel_rfl
theorem bt_max : bootBuiltins "max" = some (.builtin "max") := by kernel_rfl
theorem bt_int : bootBuiltins "int" = some (.type "int") := by kernel_rfl
theorem bt_bool : bootBuiltins "bool" = some (.type "bool") := by kernel_rfl
theorem bt_str : bootBuiltins "str" = some (.type "str") := by kernel_rfl
theorem bt_tuple : bootBuiltins "tuple" = some (.type "tuple") := by kernel_rfl
theorem bt_list : bootBuiltins "list" = some (.type "list") := by kernel_rfl
theorem bt_dict : bootBuiltins "dict" = some (.type "dict") := by kernel_rfl
theorem bt_all : bootBuiltins "all" = some (.builtin "all") := by kernel_rfl
theorem bt_any : bootBuiltins "any" = some (.builtin "any") := by kernel_rfl
end RL

set_option Elab.async false
set_option linter.all false
set_option maxRecDepth 100000
set_option maxHeartbeats 4000000
/-! ## a for over a list that may change: read anew at each turn -/
namespace RL
open PySem PySem.Spec PyProof.Rows L2
variable {K : PySem.W.Frag} {r r' r1 r2 o o' o1 : List Addr} {H H' H1 H2 : Hp} {c c' c1 c2 : Cs} {W : WX} {t : L2.St}
def loopC (n len : Nat) (g : FG) (b : FS) : Nat → FS
  | 0 => fun s c => match c[n]? with | some (.lst l) => if l.length = len then .nx s c else .bad | _ => .bad
  | k + 1 => fun s c => match c[n]? with
    | some (.lst l) => if l.length = len then (match l[len - (k + 1)]? with
      | some d => (g d s c).bind fun s1 c1 => match b s1 c1 with
        | .nx s2 c2 => loopC n len g b k s2 c2
        | .ct s2 c2 => loopC n len g b k s2 c2
        | .bk s2 c2 => .nx s2 c2
        | x => x
      | none => .bad) else .bad
    | _ => .bad
def sForV (f : FE) (g : FG) (b : FS) : FS := fun s c => (f s c).toS s fun d c1 => match d with
  | .cel n => (match c1[n]? with | some (.lst l) => loopC n l.length g b l.length s c1 | _ => .bad)
  | d => match walkD d with | some l => loopL g b l s c1 | none => .bad
theorem gives_cel {n : Nat} {a : Addr} {l : List D} (hc : Cells K r o c H) (hn : r[n]? = some a) (hl : c[n]? = some (.lst l)) (i : Nat) :
    (∀ d, l[i]? = some d → (Itl K a).go i H ∧ ∀ x H2, (Itl K a).yld i H x H2 → (∀ a u, H a = some u → H2 a = some u) ∧ Is K r o H2 d x) ∧ (l.length ≤ i → (Itl K a).stop i H) := by
  obtain ⟨us, q1, q2⟩ := hc.ok n a _ hn hl
  have hq : SqL K H a us := .inl (.inl q1)
  refine ⟨fun d e => ?_, fun hle => ⟨us, hq, by rw [← q2.length]; exact hle⟩⟩
  obtain ⟨x, hx, hd⟩ := q2.get e
  refine ⟨⟨us, x, hq, hx⟩, fun y H2 z => ?_⟩
  obtain ⟨e2, z2⟩ := z
  subst e2
  have := z2 us hq
  rw [hx] at this
  cases this
  exact ⟨fun _ _ e => e, hd⟩
theorem snd_forV {te : TE} {g : TG} {tb : TS} {f : FE} {fg : FG} {b : FS} (hf : SndE K W te f) (hg : SndG K W g fg) (hb : SndS K W tb b) : SndS K W (tFor (iSeq K te) g tb) (sForV f fg b) := fun r o c s H t D hc hs h => by
  by_cases hcel : ∃ n c1, f s c = .ok (.cel n) c1
  · obtain ⟨n, c1, e⟩ := hcel
    refine hf r o c s H t _ hc hs ?_
    rw [e]
    simp only [sForV, e, Res.toS] at h
    intro r1 H1 v s1 hc1 hv
    have h1 := OkS.step s1 h
    cases hv with
    | @cel n' a hn =>
      cases e2 : c1[n]? with
      | none => simp only [e2] at h1; exact h1.elim
      | some q =>
        cases q with
        | ins C fs => simp only [e2] at h1; exact h1.elim
        | tab _ _ => simp only [e2] at h1; exact h1.elim
        | dic _ _ => simp only [e2] at h1; exact h1.elim
        | lst l =>
          simp only [e2] at h1
          obtain ⟨us, q1, q2⟩ := hc1.ok n a _ hn e2
          refine .inl ⟨a, rfl, ⟨us, .inl (.inl q1)⟩, ?_⟩
          refine ⟨fun i m t' H' => m = l.length - i ∧ i ≤ l.length ∧ ∃ r' c' s', r'[n]? = some a ∧ Cells K r' o c' H' ∧ SlOk K r' o H' s' t' ∧ OkS K W r' o H' D (loopC n l.length fg b (l.length - i) s' c'),
            ⟨l.length, by simp, Nat.zero_le _, r1, c1, s, hn, hc1, hs.mono s1, h1⟩, ?_⟩
          rintro i m t2 H2 ⟨rfl, hi2, r2, c2, s2, l2, hc2, hs2, h2⟩
          by_cases hlt : i < l.length
          · have ek : l.length - i = (l.length - (i + 1)) + 1 := by omega
            have ei : l.length - ((l.length - (i + 1)) + 1) = i := by omega
            rw [ek] at h2
            simp only [loopC, ei] at h2
            split at h2
            · rename_i l' e5
              split at h2
              · rename_i elen
                split at h2
                · rename_i d e6
                  obtain ⟨hgo, _⟩ := gives_cel hc2 l2 e5 i
                  obtain ⟨go, yl⟩ := hgo d e6
                  refine .inr ⟨go, fun t' H' => ∃ r' c' s', r'[n]? = some a ∧ Cells K r' o c' H' ∧ SlOk K r' o H' s' t' ∧ OkS K W r' o H' D (loopC n l.length fg b (l.length - (i + 1)) s' c'), fun t' H' z => ⟨l.length - (i + 1), by omega, rfl, hlt, z⟩, fun x H3 y => ?_⟩
                  obtain ⟨k3, hx⟩ := yl x H3 y
                  have st3 : Step r2 H2 r2 H3 := Step.grow k3
                  have hc3 := hc2.grow k3
                  have h4 := OkS.step st3 h2
                  refine hg r2 o c2 s2 H3 t2 { D with nx := fun t' H' => tb { D with nx := fun t' H' => ∃ r' c' s', r'[n]? = some a ∧ Cells K r' o c' H' ∧ SlOk K r' o H' s' t' ∧ OkS K W r' o H' D (loopC n l.length fg b (l.length - (i + 1)) s' c'), ct := fun t' H' => ∃ r' c' s', r'[n]? = some a ∧ Cells K r' o c' H' ∧ SlOk K r' o H' s' t' ∧ OkS K W r' o H' D (loopC n l.length fg b (l.length - (i + 1)) s' c'), bk := D.nx } t' H' } d x hc3 (hs2.mono st3) hx ?_
                  cases e : fg d s2 c2 with
                  | nx s4 c4 =>
                    rw [e] at h4
                    intro r4 H4 t4 st4 hc4 hs4
                    have h5 := OkS.step st4 h4
                    have l4 : r4[n]? = some a := (st4.later (o := o)).at l2
                    refine hb r4 o c4 s4 H4 t4 _ hc4 hs4 ?_
                    simp only [SR.bind] at h5
                    cases e5 : b s4 c4 with
                    | nx s' c' => rw [e5] at h5; exact fun r' H' t' st hc' hs' => ⟨r', c', s', (st.later (o := o)).at l4, hc', hs', OkS.step st h5⟩
                    | ct s' c' => rw [e5] at h5; exact fun r' H' t' st hc' hs' => ⟨r', c', s', (st.later (o := o)).at l4, hc', hs', OkS.step st h5⟩
                    | bk s' c' => rw [e5] at h5; exact h5
                    | rt d c' => rw [e5] at h5; exact h5
                    | err x s' c' => rw [e5] at h5; exact h5
                    | bad => rw [e5] at h5; exact h5
                  | rt d c' => rw [e] at h4; exact h4
                  | bk s' c' => rw [e] at h4; exact h4
                  | ct s' c' => rw [e] at h4; exact h4
                  | err x s' c' => rw [e] at h4; exact h4
                  | bad => rw [e] at h4; exact h4
                · exact h2.elim
              · exact h2.elim
            · exact h2.elim
          · have ei : i = l.length := by omega
            subst ei
            rw [Nat.sub_self] at h2
            simp only [loopC] at h2
            split at h2
            · rename_i l' e5
              split at h2
              · rename_i elen
                exact .inl ⟨(gives_cel hc2 l2 e5 l.length).2 (by omega), h2 _ _ _ Step.refl hc2 hs2⟩
              · exact h2.elim
            · exact h2.elim
  · refine snd_for (snd_iseq hf) hg hb r o c s H t D hc hs ?_
    have e : sForV f fg b s c = ((fSeq f s c).toS s fun ds c1 => loopL fg b ds s c1) := by
      unfold sForV fSeq
      cases e : f s c with
      | err x c1 => rfl
      | bad => rfl
      | ok d c1 =>
        cases d with
        | cel n => exact (hcel ⟨n, c1, e⟩).elim
        | _ => simp only [Res.toS, Res.bind_ok] <;> first | rfl | (split <;> rfl)
    show OkS K W r o H D ((fSeq f s c).toS s fun ds c1 => loopL fg b ds s c1)
    rw [← e]; exact h
section
variable {X : Cx} {e : Expr} {f : FE} {fs : FS} {pos : Pos}
theorem rs_forV {tg : Expr} {b : List Stmt} {fg : FG} (hx : PassesOwn (model X.prog X.w) X.A X.env X.xe) (hc : X.calm = true) (hi : RE X W e f) (hg : RG X W tg fg) (hb : RSs X W b fs) (hs : ∀ x, foldedSetIterable e X.env x = pure x := by intro _; rfl) :
    RS X W (.For tg e b [] pos) (sForV f fg fs) := by
  obtain ⟨_, h1, h2⟩ := hi
  obtain ⟨_, h3, h4⟩ := hg
  obtain ⟨_, h5, h6⟩ := hb
  exact ⟨_, ps_for hx hc (pi_seq h1) h3 h5 hs, snd_forV h2 h4 h6⟩
end
end RL

set_option Elab.async false
set_option linter.all false
set_option maxRecDepth 100000
set_option maxHeartbeats 4000000
/-! ## enumerate over a tuple, zip, sum -/
namespace EnT
open PySem PySem.Spec PyProof.Rows L2
open AutoSeq1 (wpAny_loadPart')
theorem meets_enumerate_newT (l : Addr) (items : Array Value) (n : Nat) (dct : Option Addr) (sl : Array (Option Value)) :
    Meets (Builtin.«enumerate.__new__» ⟨[.type "enumerate", .ref l], []⟩) (fun _ R s => s.heap.get? l = some { cls := .type "tuple", dict := dct, data := .seq items n, slots := sl } ∧
      R (.ok (.ret (.ref (s.heap.push { cls := .type "tuple_iterator", data := .fields #[.ref l, .int 0 0] }).objs.size)))
        { s with heap := (s.heap.push { cls := .type "tuple_iterator", data := .fields #[.ref l, .int 0 0] }).push { cls := .type "enumerate", data := .fields #[.none, .bool false, .ref s.heap.objs.size, rawInt 0, .none, .none] } }) :=
  .of_wp fun prog w A R s h => by
    obtain ⟨hp, g, d, tk, os⟩ := s; obtain ⟨hl, h⟩ := h
    have hsub := sub_enumerate
    have hL : Heap.IsTuple (Shared.heap ⟨hp, g, d, tk, os⟩) l items := ⟨_, hl, rfl, n, rfl⟩
    wp_walk using wpAny_loadPart' hl
    refine wpAny_stack_any fun st => wpAny_pure ?_
    split
    · rename_i c _ _ _ _ _
      cases (c == Value.type "enumerate")
      · wp_walk using wpAny_loadPart' hl, wpAny_pyIter_tuple hL
        exact ⟨_, rfl, h⟩
      · wp_walk using wpAny_loadPart' hl, wpAny_pyIter_tuple hL
        exact ⟨_, rfl, h⟩
    · wp_walk using wpAny_loadPart' hl, wpAny_pyIter_tuple hL
      exact ⟨_, rfl, h⟩
section
variable {prog : Program} {w : World} {A : Around} {E : Value → Shared → Prop} {s : Shared}
theorem call_enumerate_tuple {l : Addr} {items : Array Value} {Q : Value → Shared → Prop} (hL : s.heap.IsTuple l items)
    (h : ∀ h', IsEnum h' (s.heap.objs.size + 1) s.heap.objs.size 0 .none → h'.IsTupleIter s.heap.objs.size l 0 → h'.objs.size = s.heap.objs.size + 2 →
      (∀ b o, s.heap.get? b = some o → h'.get? b = some o) → Q (.ref (s.heap.objs.size + 1)) { s with heap := h' }) :
    wpAny (model prog w) A (call (.type "enumerate") [.ref l]) Q E s := by
  obtain ⟨⟨c, dct, dt, sl⟩, hl, hc, n, hd⟩ := hL
  replace hc : c = .type "tuple" := hc
  replace hd : dt = .seq items n := hd
  subst hc hd
  refine callType_new F.called_enumerate (by decide) (F.typeCall_enumerate_1 _) (F.newCall_enumerate_1 _) (fun obj => F.args_object_init_2 obj _) F.entry_enumerate_new
    (meets_enumerate_newT l items n dct sl) ⟨hl, ?_⟩
  have hz : (s.heap.push { cls := .type "tuple_iterator", data := .fields #[.ref l, .int 0 0] }).objs.size = s.heap.objs.size + 1 := Heap.size_push ..
  show _ ∧ _
  rw [hz]
  have he : IsEnum ((s.heap.push { cls := .type "tuple_iterator", data := .fields #[.ref l, .int 0 0] }).push
      { cls := .type "enumerate", data := .fields #[.none, .bool false, .ref s.heap.objs.size, rawInt 0, .none, .none] }) (s.heap.objs.size + 1) s.heap.objs.size 0 .none := by
    have := Heap.get?_push_size (s.heap.push { cls := .type "tuple_iterator", data := .fields #[.ref l, .int 0 0] })
      (o := { cls := .type "enumerate", data := .fields #[.none, .bool false, .ref s.heap.objs.size, rawInt 0, .none, .none] }) rfl
    rw [hz] at this; exact this
  refine ⟨⟨_, he, rfl⟩, h _ he ⟨_, Heap.get?_push_of_some _ (Heap.get?_push_size _ rfl), rfl, rfl⟩ (by rw [Heap.size_push, hz]) fun b o x => Heap.get?_push_of_some _ (Heap.get?_push_of_some _ x)⟩
theorem enumT_end {e it t : Addr} {i : Nat} {items : Array Value} {k : Int} {old : Value} {Q : Option Value → Shared → Prop} (hh : A.handled = none)
    (he : IsEnum s.heap e it k old) (hit : s.heap.IsTupleIter it t i) (ht : s.heap.IsTuple t items) (hx : items[i]? = none)
    (hQ : ∀ h', Heap.ExtBut it s.heap h' → Q none { s with heap := h' }) : wpAny (model prog w) A (pyNext (.ref e)) Q E s := by
  have hT : s.TypeIs (.ref e) "enumerate" := ⟨_, he, rfl⟩
  unfold pyNext
  refine wpAny_bind (wpAny_attempt (wpAny_callSpecial?_slot (name := Str.ofString "__next__") hT F.slot_enumerate_next
    (wpAny_call_entry F.slot_enumerate_next hT F.entry_enumerate_next ?_ (F.args_enumerate_next_1 _))))
  show wpAny _ _ (field (.ref e) 2 >>= _) _ _ _
  refine wpAny_bind (wpAny_field he rfl (x := .ref it) rfl ?_)
  refine wpAny_bind (wpAny_nextOf_tuple_end (show A.in1.handled = none from hh) hit ht hx fun h' x he' hx' => ?_)
  obtain ⟨o, ho, hc⟩ := hx'
  refine wpAny_bind (wpAny_isInstance (T := "StopIteration") (b := true) ⟨o, ho, hc⟩ isSubtype_stop ?_)
  exact wpAny_pure (hQ _ he')
end
/-- the tuple at a, each item in a new pair -/
def IteT (K : PySem.W.Frag) (a : Addr) : It :=
  ⟨fun i H => ∃ (xs : List V) (x : V), SqT K H a xs ∧ xs[i]? = some x, fun i H v H' => ∃ T x, v = .ref T ∧ H T = none ∧ H' = upd H T (.tup [.int (i : Nat), x]) ∧ ∀ xs, SqT K H a xs → xs[i]? = some x, fun i H => ∃ xs : List V, SqT K H a xs ∧ xs.length ≤ i⟩
theorem turn_enumT {P : Program} {w : World} {K : PySem.W.Frag} {elts : List Expr} {kk : Nat} {tpos : Pos} (a e it : Addr) :
    Turn P w K (.Tuple elts kk tpos) (IteT K a) [e, it] e (fun i h => (∃ old, IsEnum h e it ((i : Nat) : Int) old) ∧ h.IsTupleIter it a i ∧ e ≠ it) where
  mem := by simp
  obj := fun i h st b hb => by
    obtain ⟨⟨old, he⟩, ⟨o, ho, hc, hd⟩, _⟩ := st
    have e' : b = e ∨ b = it := by simpa using hb
    rcases e' with z | z
    · rw [z]; exact ⟨_, he, fun v q => nomatch q⟩
    · rw [z]; exact ⟨o, ho, fun v q => by rw [hd] at q; cases q⟩
  keep := fun i h h' st k => let ⟨⟨old, he⟩, hi, hne⟩ := st; ⟨⟨old, k e (by simp) _ he⟩, hi.at fun o q => k it (by simp) o q, hne⟩
  item := by
    intro X hP hw hK hc i pins s σ H E I hf st hg
    subst hP hw hK
    obtain ⟨⟨old, he⟩, hit, hne⟩ := st
    obtain ⟨xs, x, hq, hx⟩ := hg
    obtain ⟨its, rv, p, hz⟩ := I.tuple hq
    obtain ⟨u, hu, ru⟩ := rv.get hx
    have pT : s.heap.IsTuple a its.toArray := p
    have hel : e < s.heap.objs.size := Heap.lt_size he
    have hil : it < s.heap.objs.size := by obtain ⟨_, q, _⟩ := hit; exact Heap.lt_size q
    have hai : a ≠ it := fun z => by
      obtain ⟨o1, h1, c1, _⟩ := pT
      obtain ⟨o2, h2, c2, _⟩ := id hit
      rw [z, h2] at h1
      cases h1
      rw [c2] at c1
      injection c1 with c1
      exact absurd c1 (by decide)
    have hae : e ≠ a := fun z => by
      obtain ⟨o1, h1, c1, _⟩ := pT
      rw [← z, he] at h1
      cases h1
      injection c1 with c1
      exact absurd c1 (by decide)
    have hlt : i < its.toArray.size := by
      have := (List.getElem?_eq_some_iff.mp hu).1
      simpa using this
    refine wpAny_pyNext_enum_itemD (PySem.Draws.tuple (show X.A.in1.handled = none from I.ok.hd hc) it a hai its.toArray) he ⟨hit, pT⟩ hlt hne (by simp [hne, hae]) fun x' h' tk hPx ho hst' hT hsz hk => ?_
    obtain rfl : x' = u := by
      have : its[i]? = some x' := by simpa using hPx
      rw [hu] at this
      exact (Option.some.inj this).symm
    obtain ⟨hit', _⟩ := hst'
    refine ⟨_, rfl, wpAny_letOwnedTupleGo_enum (s := { s with heap := h', toks := tk + 1 }) ho fun h'' he' sb => ?_⟩
    have hT2 : h''.get? s.heap.objs.size = some { cls := .type "tuple", data := .seq #[.int i tk, x'] } := (sb.2 _ (Nat.ne_of_gt hel)).trans hT
    have new : ObjOk X.prog X.w (upd H s.heap.objs.size (.tup [.int (i : Nat), x])) h'' s.heap.objs.size (.tup [.int (i : Nat), x]) :=
      ⟨by show 2 ≤ sizeLine; decide, [.int i tk, x'], .cons ⟨_, rfl⟩ (.cons ru .nil), ⟨_, hT2, rfl, _, rfl⟩⟩
    have I1 : Inv X pins σ (upd H s.heap.objs.size (.tup [.int (i : Nat), x])) { s with heap := h'', toks := tk + 1 } :=
      I.turnedNew (ch := [e, it]) (fun b ob hb q => (sb.2 b (fun z => hb (by simp [z]))).trans (hk b ob (fun z => hb (by simp [z])) (fun z => hb (by simp [z])) q)) hf (Nat.le_refl _) new
    refine ⟨.ref s.heap.objs.size, _, I1, rfl, ⟨_, x, rfl, I.hok.fresh (Nat.le_refl _), rfl, fun ys hy => by rw [I.tuple_inj hy hq]; exact hx⟩, ⟨⟨x', ?_⟩, hit'.at fun o q => (sb.2 it (Ne.symm hne)).trans q, hne⟩, fun b hb => ?_⟩
    · have e1 : ((i + 1 : Nat) : Int) = (i : Int) + 1 := by omega
      rw [e1]; exact he'
    · have hb' : b < s.heap.objs.size := by
        have e' : b = e ∨ b = it := by simpa using hb
        rcases e' with z | z
        · rw [z]; exact hel
        · rw [z]; exact hil
      rw [upd_ne (Nat.ne_of_lt hb')]
      exact (hf b hb).1
  done := by
    intro X hP hw hK hc i pins s σ H E I hf st hg
    subst hP hw hK
    obtain ⟨⟨old, he⟩, hit, hne⟩ := st
    obtain ⟨xs, hq, hx⟩ := hg
    obtain ⟨its, rv, p, hz⟩ := I.tuple hq
    obtain ⟨f0, f1, f2, f3, f4, f5⟩ := hf it (by simp)
    have hl := rv.length
    exact enumT_end (I.ok.hd hc) he hit (show s.heap.IsTuple a its.toArray from p) (by simp; omega) fun h' eb => ⟨rfl, I.turned (t' := s.toks) (fun b o hb q => eb b o hb q) f0 f1 f3 f4 f5⟩
  self := fun A i s Q E st h => let ⟨⟨_, he⟩, _⟩ := st; wpAny_pyIter_enum he h
def iEnumA (K : PySem.W.Frag) (ta : TA) : TI := fun σ H R => ta σ H fun vs H1 => ∃ a xs, vs = [.ref a] ∧ ((SqL K H1 a xs ∧ R (Ite K a) H1) ∨ (SqT K H1 a xs ∧ R (IteT K a) H1))
theorem pi_enumA {X : Cx} {e : Expr} {ta : TA} {p pos tpos : Pos} {elts : List Expr} {kk : Nat} (hg : Gl X "enumerate") (hm : X.mg "enumerate" = none) (ha : PA X [e] ta) (hs : starEach [e] X.env = [(false, eval e X.env)] := by rfl) :
    PI X (.Tuple elts kk tpos) (.Call (.Name "enumerate" p) [e] [] pos) (iEnumA X.K ta) := by
  refine ⟨fun pins s σ H R I h => ?_⟩
  refine Call_ (ld_blt I hg hm boot_enumerate (PyProof.Rows.callWith_type1 (thn (ha.run pos pins s σ H _ I h) fun us s1 ⟨vs, H1, I1, r1, q1⟩ => ?_) hs rfl))
  obtain ⟨a, xs, ex, q⟩ := q1
  subst ex
  cases r1 with
  | cons r rr =>
    cases rr
    cases r
    have fresh : ∀ b ∈ [s1.heap.objs.size + 1, s1.heap.objs.size], FpOk X pins H1 b := fun b hb => by
      have e' : b = s1.heap.objs.size + 1 ∨ b = s1.heap.objs.size := by simpa using hb
      have hle : s1.heap.objs.size ≤ b := by
        rcases e' with z | z
        · rw [z]; exact Nat.le_add_right _ _
        · rw [z]; exact Nat.le_refl _
      exact I1.fpOk hle (I1.hok.fresh hle)
    rcases q with ⟨hq, q⟩ | ⟨hq, q⟩
    · obtain ⟨its, rv, p', hz⟩ := I1.list hq
      refine call_enumerate_list p'.isList fun h' he hit hsz hk => wpAny_pyIter_enum he ?_
      have I2 : Inv X pins σ H1 { s1 with heap := h' } := I1.kept (t' := s1.toks) hk
      exact ⟨s1.heap.objs.size + 1, [s1.heap.objs.size + 1, s1.heap.objs.size], _, _, H1, rfl, I2, turn_enum a (s1.heap.objs.size + 1) s1.heap.objs.size, ⟨⟨.none, he⟩, hit, Nat.succ_ne_self _⟩, fresh, q⟩
    · obtain ⟨its, rv, p', hz⟩ := I1.tuple hq
      refine call_enumerate_tuple (show s1.heap.IsTuple a its.toArray from p') fun h' he hit hsz hk => wpAny_pyIter_enum he ?_
      have I2 : Inv X pins σ H1 { s1 with heap := h' } := I1.kept (t' := s1.toks) hk
      exact ⟨s1.heap.objs.size + 1, [s1.heap.objs.size + 1, s1.heap.objs.size], _, _, H1, rfl, I2, turn_enumT a (s1.heap.objs.size + 1) s1.heap.objs.size, ⟨⟨.none, he⟩, hit, Nat.succ_ne_self _⟩, fresh, q⟩
end EnT
namespace RL
open PySem PySem.Spec PyProof.Rows L2
variable {K : PySem.W.Frag} {r r' r1 r2 o o' o1 : List Addr} {H H' H1 H2 : Hp} {c c' c1 c2 : Cs} {W : WX} {t : L2.St}
def enumD (l : List D) : List D := l.mapIdx fun i d => .tup [.int (i : Nat), d]
def fEnum (f : FA) : FA := fun s c => (f s c).bind fun ds c1 => match ds with
  | [.tup l] => .ok (enumD l) c1
  | [.lst l] => .ok (enumD l) c1
  | _ => .bad
/-- a new pair -/
theorem Is.pair (hc : Cells K r o c H) {p : Addr} {d e : D} {x y : V} (hp : H p = none) (hd : Is K r o H d x) (he : Is K r o H e y) : Is K r o (upd H p (.tup [x, y])) (.tup [d, e]) (.ref p) :=
  Is.newTup hc hp (.cons hd (.cons he .nil))
theorem gives_enumL {a : Addr} {us : List V} {ds : List D} (hl : LstAt r o H a us) (hu : IsL K r o H ds us) : GivesL K r o H (enumD ds) (Ite K a) := fun r' o' H' c' l hc i => by
  have hq := (hl.later l).sq (K := K)
  have hu' := hu.later l
  unfold enumD
  refine ⟨fun d e => ?_, fun hle => ⟨us, hq, by rw [← hu.length]; simpa using hle⟩⟩
  rw [List.getElem?_mapIdx] at e
  cases e1 : ds[i]? with
  | none => rw [e1] at e; cases e
  | some d' =>
    rw [e1] at e
    cases e
    obtain ⟨x, hx, hd⟩ := hu'.get e1
    refine ⟨⟨us, x, hq, hx⟩, fun y H2 z => ?_⟩
    obtain ⟨T, x', e2, hT, e3, z2⟩ := z
    subst e2 e3
    have := z2 us hq
    rw [hx] at this
    cases this
    exact ⟨fun b u eb => by rw [upd_ne (ne_of_none eb hT)]; exact eb, Is.pair hc hT .int hd⟩
theorem gives_enumT {a : Addr} {us : List V} {ds : List D} (hl : TupAt K r o H a us) (hu : IsL K r o H ds us) : GivesL K r o H (enumD ds) (EnT.IteT K a) := fun r' o' H' c' l hc i => by
  have hq := (hl.later l).sq
  have hu' := hu.later l
  unfold enumD
  refine ⟨fun d e => ?_, fun hle => ⟨us, hq, by rw [← hu.length]; simpa using hle⟩⟩
  rw [List.getElem?_mapIdx] at e
  cases e1 : ds[i]? with
  | none => rw [e1] at e; cases e
  | some d' =>
    rw [e1] at e
    cases e
    obtain ⟨x, hx, hd⟩ := hu'.get e1
    refine ⟨⟨us, x, hq, hx⟩, fun y H2 z => ?_⟩
    obtain ⟨T, x', e2, hT, e3, z2⟩ := z
    subst e2 e3
    have := z2 us hq
    rw [hx] at this
    cases this
    exact ⟨fun b u eb => by rw [upd_ne (ne_of_none eb hT)]; exact eb, Is.pair hc hT .int hd⟩
theorem snd_enum {ta : TA} {f : FA} (hf : SndA K W ta f) : SndJ K W (EnT.iEnumA K ta) (fEnum f) := fun r o c s H t Q hc hs h =>
  hf r o c s H t _ hc hs (ok_bind h fun ds c1 r1 H1 v s1 hc1 hv h1 => by
    split at h1
    · cases hv with
      | cons a b =>
        cases b
        obtain ⟨p, us, rfl, h2, h3⟩ := a.tup_inv
        exact ⟨p, us, rfl, .inr ⟨h2.sq, h1.here hc1 (gives_enumT h2 h3)⟩⟩
    · cases hv with
      | cons a b =>
        cases b
        obtain ⟨p, us, rfl, h2, h3⟩ := a.lst_inv
        exact ⟨p, us, rfl, .inl ⟨h2.sq, h1.here hc1 (gives_enumL h2 h3)⟩⟩
    · exact h1.elim)
def zipD (l m : List D) : List D := List.zipWith (fun d e => .tup [d, e]) l m
def fZip (f : FA) : FA := fun s c => (f s c).bind fun ds c1 => match ds with
  | [.tup l, .tup m] => .ok (zipD l m) c1
  | [.lst l, .lst m] => .ok (zipD l m) c1
  | _ => .bad
theorem zip_some {l m : List D} {i : Nat} {d : D} (e : (zipD l m)[i]? = some d) : ∃ x y, l[i]? = some x ∧ m[i]? = some y ∧ d = .tup [x, y] := by
  unfold zipD at e
  rw [List.getElem?_zipWith] at e
  cases e1 : l[i]? with
  | none => rw [e1] at e; cases e
  | some x =>
    cases e2 : m[i]? with
    | none => rw [e1, e2] at e; cases e
    | some y => rw [e1, e2] at e; cases e; exact ⟨x, y, rfl, rfl, rfl⟩
theorem zip_le {l m : List D} {i : Nat} (e : (zipD l m).length ≤ i) : l.length ≤ i ∨ m.length ≤ i := by
  unfold zipD at e
  rw [List.length_zipWith] at e
  omega
theorem gives_zipL {a b : Addr} {us ws : List V} {ds es : List D} (hl : LstAt r o H a us) (hu : IsL K r o H ds us) (hm : LstAt r o H b ws) (hw : IsL K r o H es ws) : GivesL K r o H (zipD ds es) (Itz K a b) := fun r' o' H' c' l hc i => by
  have hq := (hl.later l).sq (K := K)
  have hq2 := (hm.later l).sq (K := K)
  have hu' := hu.later l
  have hw' := hw.later l
  refine ⟨fun d e => ?_, fun hle => ⟨us, ws, hq, hq2, by rw [← hu.length, ← hw.length]; exact zip_le hle⟩⟩
  obtain ⟨d1, d2, e1, e2, rfl⟩ := zip_some e
  obtain ⟨x, hx, hd⟩ := hu'.get e1
  obtain ⟨y, hy, he⟩ := hw'.get e2
  refine ⟨⟨us, ws, x, y, hq, hq2, hx, hy⟩, fun v H2 z => ?_⟩
  obtain ⟨T, x', y', e3, hT, e4, z2, z3⟩ := z
  subst e3 e4
  have t1 := z2 us hq
  have t2 := z3 ws hq2
  rw [hx] at t1
  rw [hy] at t2
  cases t1; cases t2
  exact ⟨fun b u eb => by rw [upd_ne (ne_of_none eb hT)]; exact eb, Is.pair hc hT hd he⟩
theorem gives_zipT {a b : Addr} {us ws : List V} {ds es : List D} (hl : TupAt K r o H a us) (hu : IsL K r o H ds us) (hm : TupAt K r o H b ws) (hw : IsL K r o H es ws) : GivesL K r o H (zipD ds es) (RZ.ItzT K a b) := fun r' o' H' c' l hc i => by
  have hq := (hl.later l).sq
  have hq2 := (hm.later l).sq
  have hu' := hu.later l
  have hw' := hw.later l
  refine ⟨fun d e => ?_, fun hle => ⟨us, ws, hq, hq2, by rw [← hu.length, ← hw.length]; exact zip_le hle⟩⟩
  obtain ⟨d1, d2, e1, e2, rfl⟩ := zip_some e
  obtain ⟨x, hx, hd⟩ := hu'.get e1
  obtain ⟨y, hy, he⟩ := hw'.get e2
  refine ⟨⟨us, ws, x, y, hq, hq2, hx, hy⟩, fun v H2 z => ?_⟩
  obtain ⟨T, x', y', e3, hT, e4, z2, z3⟩ := z
  subst e3 e4
  have t1 := z2 us hq
  have t2 := z3 ws hq2
  rw [hx] at t1
  rw [hy] at t2
  cases t1; cases t2
  exact ⟨fun b u eb => by rw [upd_ne (ne_of_none eb hT)]; exact eb, Is.pair hc hT hd he⟩
theorem snd_zip {ta : TA} {f : FA} (hf : SndA K W ta f) : SndJ K W (RZ.iZipA K ta) (fZip f) := fun r o c s H t Q hc hs h =>
  hf r o c s H t _ hc hs (ok_bind h fun ds c1 r1 H1 v s1 hc1 hv h1 => by
    split at h1
    · cases hv with
      | cons a b =>
        cases b with
        | cons a2 b2 =>
          cases b2
          obtain ⟨p, us, rfl, h2, h3⟩ := a.tup_inv
          obtain ⟨p2, us2, rfl, h4, h5⟩ := a2.tup_inv
          exact ⟨p, p2, us, us2, rfl, .inr ⟨h2.sq, h4.sq, h1.here hc1 (gives_zipT h2 h3 h4 h5)⟩⟩
    · cases hv with
      | cons a b =>
        cases b with
        | cons a2 b2 =>
          cases b2
          obtain ⟨p, us, rfl, h2, h3⟩ := a.lst_inv
          obtain ⟨p2, us2, rfl, h4, h5⟩ := a2.lst_inv
          exact ⟨p, p2, us, us2, rfl, .inl ⟨h2.sq, h4.sq, h1.here hc1 (gives_zipL h2 h3 h4 h5)⟩⟩
    · exact h1.elim)
section
variable {X : Cx} {e e2 : Expr} {fa : FA} {p pos tpos : Pos} {elts : List Expr} {kk : Nat}
theorem ri_enum (hg : Gl X "enumerate") (hm : X.mg "enumerate" = none) (ha : RA X W [e] fa) (hs : starEach [e] X.env = [(false, eval e X.env)] := by rfl) :
    RI X W (.Tuple elts kk tpos) (.Call (.Name "enumerate" p) [e] [] pos) (fEnum fa) := by
  obtain ⟨_, h1, h2⟩ := ha
  exact ⟨_, EnT.pi_enumA hg hm h1 hs, snd_enum h2⟩
theorem ri_zip (hg : Gl X "zip") (hm : X.mg "zip" = none) (ha : RA X W [e, e2] fa) (hs : starEach [e, e2] X.env = (false, eval e X.env) :: starEach [e2] X.env := by rfl) (hpl : (backTo pos (starEach [e2] X.env)).any (·.1) = false := by rfl) :
    RI X W (.Tuple elts kk tpos) (.Call (.Name "zip" p) [e, e2] [] pos) (fZip fa) := by
  obtain ⟨_, h1, h2⟩ := ha
  exact ⟨_, RZ.pi_zipA hg hm h1 hs hpl, snd_zip h2⟩
end
/-- sum(xs) of a list of ints -/
def fSum : List D → Cs → Res D := fun ds c => match ds with
  | [.lst l] => (match intsOf l with | some ns => .ok (.int ns.sum) c | none => .bad)
  | _ => .bad
theorem rcl_sum {X : Cx} (hc : X.calm = true) : RCl X W (.builtin "sum") fSum := by
  refine ⟨_, cr_sum hc, fun r o c H t Q ds vs hcl hv h => ?_⟩
  unfold fSum at h
  split at h
  · rename_i l
    cases e1 : intsOf l with
    | none => simp only [e1] at h; exact h.elim
    | some ns =>
      simp only [e1] at h
      cases hv with
      | cons a b =>
        cases b
        obtain ⟨p, us, rfl, h2, h3⟩ := a.lst_inv
        have := intsOf_at h3 e1
        subst this
        exact ⟨p, ns, rfl, h2.sq, h.here hcl .int⟩
  · exact h.elim
theorem bt_sum : bootBuiltins "sum" = some (.builtin "sum") := by kernel_rfl
theorem bt_enumerate : bootBuiltins "enumerate" = some (.type "enumerate") := by kernel_rfl
end RL

set_option Elab.async false
set_option linter.all false
set_option maxRecDepth 100000
set_option maxHeartbeats 4000000
/-! ## instances of own classes -/
namespace RL
open PySem PySem.Spec PyProof.Rows L2
variable {K : PySem.W.Frag} {r r' r1 r2 o o' o1 : List Addr} {H H' H1 H2 : Hp} {c c' c1 c2 : Cs} {W : WX} {t : L2.St}
/-! ### attributes -/
def putD (f : Str) (v : D) : List (Str × D) → List (Str × D)
  | [] => [(f, v)]
  | (g, x) :: r => if g = f then (g, v) :: r else (g, x) :: putD f v r
theorem isf_cons {p : Str × D} {q : Str × V} {fs : List (Str × D)} {vs : List (Str × V)} (h : IsF K r o H (p :: fs) (q :: vs)) : p.1 = q.1 ∧ Is K r o H p.2 q.2 ∧ IsF K r o H fs vs := by
  obtain ⟨h1, h2⟩ := h
  simp only [List.map_cons, List.cons.injEq] at h1 h2
  cases h2 with
  | cons a b => exact ⟨h1.1, a, h1.2, b⟩
theorem isf_mk {p : Str × D} {q : Str × V} {fs : List (Str × D)} {vs : List (Str × V)} (h1 : p.1 = q.1) (h2 : Is K r o H p.2 q.2) (h3 : IsF K r o H fs vs) : IsF K r o H (p :: fs) (q :: vs) :=
  ⟨by simp only [List.map_cons, h1, h3.1], .cons h2 h3.2⟩
theorem IsF.look {x : Str} : ∀ {fs : List (Str × D)} {vs : List (Str × V)} {d : D}, IsF K r o H fs vs → fs.lookup x = some d → ∃ v, vs.lookup x = some v ∧ Is K r o H d v
  | [], [], _, _, e => by cases e
  | [], _ :: _, _, h, _ => by cases h.1
  | _ :: _, [], _, h, _ => by cases h.1
  | (g, d') :: fs, (g2, v') :: vs, d, h, e => by
    obtain ⟨h1, h2, h3⟩ := isf_cons h
    simp only at h1
    subst h1
    rw [List.lookup_cons] at e ⊢
    by_cases q : (x == g) = true
    · simp only [q] at e ⊢
      cases e
      exact ⟨v', rfl, h2⟩
    · simp only [q] at e ⊢
      exact h3.look e
theorem IsF.look0 {x : Str} : ∀ {fs : List (Str × D)} {vs : List (Str × V)}, IsF K r o H fs vs → fs.lookup x = none → vs.lookup x = none
  | [], [], _, e => rfl
  | [], _ :: _, h, _ => by cases h.1
  | _ :: _, [], h, _ => by cases h.1
  | (g, d') :: fs, (g2, v') :: vs, h, e => by
    obtain ⟨h1, h2, h3⟩ := isf_cons h
    simp only at h1
    subst h1
    rw [List.lookup_cons] at e ⊢
    by_cases q : (x == g) = true
    · simp only [q] at e
      cases e
    · simp only [q] at e ⊢
      exact h3.look0 e
theorem IsF.put {x : Str} {d : D} {v : V} (hv : Is K r o H d v) : ∀ {fs : List (Str × D)} {vs : List (Str × V)}, IsF K r o H fs vs → IsF K r o H (putD x d fs) (putF x v vs)
  | [], [], _ => isf_mk rfl hv ⟨rfl, .nil⟩
  | [], _ :: _, h => by cases h.1
  | _ :: _, [], h => by cases h.1
  | (g, d') :: fs, (g2, v') :: vs, h => by
    obtain ⟨h1, h2, h3⟩ := isf_cons h
    simp only at h1
    subst h1
    unfold putD putF
    by_cases q : g = x
    · rw [if_pos q, if_pos q]; exact isf_mk rfl hv h3
    · rw [if_neg q, if_neg q]; exact isf_mk rfl h2 (IsF.put hv h3)
theorem IsF.length {fs : List (Str × D)} {vs : List (Str × V)} (h : IsF K r o H fs vs) : fs.length = vs.length := by
  have := h.2.length
  simpa using this
/-- an instance: its number, class, attributes -/
def insOf (c : Cs) : D → Option (Nat × Addr × List (Str × D))
  | .cel n => (match c[n]? with | some (.ins C fs) => some (n, C, fs) | _ => none)
  | _ => none
theorem insOf_at (hc : Cells K r o c H) {d : D} {v : V} {n : Nat} {C : Addr} {fs : List (Str × D)} (hv : Is K r o H d v) (e : insOf c d = some (n, C, fs)) : d = .cel n ∧ c[n]? = some (.ins C fs) ∧ ∃ a dx vs, v = .ref a ∧ r[n]? = some a ∧ H a = some (.ins C dx vs) ∧ (H dx = some (.own a) ∧ dx ∉ r ∧ dx ∉ o) ∧ IsF K r o H fs vs := by
  unfold insOf at e
  split at e
  · rename_i n'
    split at e
    · rename_i C' fs' e2
      cases e
      obtain ⟨a, rfl, hn⟩ := hv.cel_inv
      obtain ⟨dx, vs, h1, h2, h3⟩ := hc.ok n a _ hn e2
      exact ⟨rfl, e2, a, dx, vs, rfl, hn, h1, h2, h3⟩
    · cases e
  · cases e
/-- e.x -/
def eFld (C : Addr) (x : Str) (f : FE) : FE := fun s c => (f s c).bind fun d c1 => match insOf c1 d with
  | some (_, C', fs) => if C' = C then (match fs.lookup x with | some v => .ok v c1 | none => .bad) else .bad
  | none => .bad
/-- a.x = e -/
def sSetF (C : Addr) (x : Str) (fo fv : FE) : FS := fun s c => (fv s c).toS s fun v c1 => (fo s c1).toS s fun d c2 => match insOf c2 d with
  | some (n, C', fs) => if C' = C ∧ fs.length < 1000 then .nx s (c2.set n (.ins C (putD x v fs))) else .bad
  | none => .bad
theorem Cells.setF (h : Cells K r o c H) {n : Nat} {a dx C : Addr} {fs : List (Str × D)} {vs : List (Str × V)} {x : Str} {d : D} {v : V} (e : r[n]? = some a) (ha : H a = some (.ins C dx vs)) (hd : H dx = some (.own a) ∧ dx ∉ r ∧ dx ∉ o) (hf : IsF K r o H fs vs) (hv : Is K r o H d v) :
    Cells K r o (c.set n (.ins C (putD x d fs))) (upd H a (.ins C dx (putF x v vs))) := by
  have st := Step.mut (r := r) (H := H) (u := .ins C dx (putF x v vs)) (List.mem_of_getElem? e)
  refine h.setX e ⟨dx, _, upd_same, ⟨?_, hd.2.1, hd.2.2⟩, (IsF.put hv hf).mono st⟩
  rw [upd_ne (fun z => by rw [z, ha] at hd; cases hd.1)]
  exact hd.1
section
variable {X : Cx} {C : Addr} {e ev : Expr} {x : Str} {f fv : FE} {pos pos' : Pos}
theorem re_fld (hC : Cls X.K C) (hn : NoAttr X.K C x) (he : RE X W e f) (hab : attributeBase e x X.env (eval e X.env) = eval e X.env := by rfl) : RE X W (.Attribute e x pos) (eFld C x f) := by
  obtain ⟨_, h1, h2⟩ := he
  refine ⟨_, pe_fld h1 hab, fun r o c s H t Q hc hs h => h2 r o c s H t _ hc hs (ok_bind h fun d c1 r1 H1 v s1 hc1 hv h1 => ?_)⟩
  cases e1 : insOf c1 d with
  | none => simp only [e1] at h1; exact h1.elim
  | some p =>
    obtain ⟨n, C', fs⟩ := p
    simp only [e1] at h1
    split at h1
    · rename_i ec
      subst ec
      obtain ⟨rfl, e2, a, dx, vs, rfl, hn', ha, hd, hf⟩ := insOf_at hc1 hv e1
      cases e3 : fs.lookup x with
      | none => simp only [e3] at h1; exact h1.elim
      | some z =>
        simp only [e3] at h1
        obtain ⟨w, e4, hw⟩ := hf.look e3
        exact ⟨a, C', dx, vs, w, rfl, ha, hC, hn, e4, h1.here hc1 hw⟩
    · exact h1.elim
theorem rs_fld (hC : Cls X.K C) (hn : NoAttr X.K C x) (he : RE X W e f) (hv : RE X W ev fv) (hs : swapsWith ev (some (.Attribute e x pos')) pos.line X.env = pure false := by rfl) : RS X W (.Assign [.Attribute e x pos'] ev pos) (sSetF C x f fv) := by
  obtain ⟨_, h1, h2⟩ := he
  obtain ⟨_, h3, h4⟩ := hv
  refine ⟨_, ps_fld h1 h3 hs, fun r o c s H t D hc hs h => h4 r o c s H t _ hc hs (ok_toS hs h fun v c1 r1 H1 y s1 hc1 hy q1 => h2 r1 o c1 s H1 t _ hc1 (hs.mono s1) (ok_toS (hs.mono s1) q1 fun d c2 r2 H2 z s2 hc2 hz q2 => ?_))⟩
  cases e1 : insOf c2 d with
  | none => simp only [e1] at q2; exact q2.elim
  | some p =>
    obtain ⟨n, C', fs⟩ := p
    simp only [e1] at q2
    split at q2
    · rename_i ec
      obtain ⟨rfl, hlen⟩ := ec
      obtain ⟨rfl, e2, a, dx, vs, rfl, hn', ha, hd, hf⟩ := insOf_at hc2 hz e1
      refine ⟨a, C', dx, vs, rfl, ha, hC, hn, by rw [← hf.length]; exact hlen, ?_⟩
      exact q2 _ _ _ (Step.mut (List.mem_of_getElem? hn')) (hc2.setF hn' ha hd hf (hy.mono s2)) (((hs.mono s1).mono s2).mono (Step.mut (List.mem_of_getElem? hn')))
    · exact q2.elim
end
/-! ### a class is called -/
section
variable {X : Cx} {CX : CXT} {k : Nat} {f C : Addr} {fd : FuncData} {ps : List Str} {sp : Sp} {E : L2.St → XK} {x m : Str} {p pos apos : Pos} {e ob : Expr} {es : List Expr} {ta : TE} {tt : TA}
def tMakeS (C : Addr) (sp : Sp) (E : L2.St → XK) (t : TA) : TE := fun σ H Q => t σ H fun vs H1 => ∀ x dx, H1 x = none → H1 dx = none → dx ≠ x →
  sp (.ref x :: vs) (upd (upd H1 dx (.own x)) x (.ins C dx [])) (fun v H2 => v = .non ∧ Q (.ref x) H2) (E σ)
theorem run_makeS {pins : List (Addr × Obj)} {σ : L2.St} {H : Hp} {s : Shared} {Q : VK} {us : List Value} {vs : List V} (M : Mk X.K C f) (F : FnOk X.prog X.w X.K X.mg X.base CX k f fd ps sp) (hr : Room (k + 1) X.A) (hb : L2.Binds X.K fd ps []) (hx : PassesAt CX X σ (E σ)) (I : Inv X pins σ H s) (r : Vals vs us)
    (h : ∀ x dx, H x = none → H dx = none → dx ≠ x → sp (.ref x :: vs) (upd (upd H dx (.own x)) x (.ins C dx [])) (fun v H2 => v = .non ∧ Q (.ref x) H2) (E σ)) :
    wpAny (model X.prog X.w) X.A (call (.ref C) us) (EP X pins σ Q) X.xe s := by
  have hq := h (s.heap.objs.size + 1) s.heap.objs.size (I.hok.fresh (Nat.le_succ _)) (I.hok.fresh (Nat.le_refl _)) (Nat.ne_of_lt (Nat.lt_succ_self _))
  have I2 := Inv.made (C := C) I
  have r2 : Vals (V.ref (s.heap.objs.size + 1) :: vs) (Value.ref (s.heap.objs.size + 1) :: us) := .cons rfl r
  have hl : (Value.ref (s.heap.objs.size + 1) :: us).length = ps.length := by
    have e := r2.length
    rw [F.len _ _ _ _ hq] at e
    exact e.symm
  have b := hb ⟨(s.heap.push PySem.W.emptyDict).push (PySem.W.instObj C s.heap.objs.size), s.gens, s.drawn, s.toks, s.os⟩ (Value.ref (s.heap.objs.size + 1) :: us) I2.kIn (by rw [List.append_nil]; exact hl)
  rw [List.append_nil] at b
  refine wpAny_call (make_map (f := f) I.kIn M.makes M.init (beq_iff_eq.mp M.fn) (codeAny_mono (F.run _ X.stack _ _ ⟨Value.ref (s.heap.objs.size + 1) :: us, []⟩ (Value.ref (s.heap.objs.size + 1) :: us) _ _ (E σ) (hr.make C us [])
    (I2.env0.make C us []) b r2 hq) fun r s' hq' => ?_))
  cases r with
  | error e => exact hx pins _ _ e s' I2 hq'
  | ok fl =>
    cases fl with
    | ret u =>
      obtain ⟨v, H', I3, rv, ev, q3⟩ := I2.after hq'
      subst ev
      exact ⟨rv, ⟨V.ref (s.heap.objs.size + 1), H', I3, rfl, q3⟩⟩
    | next => exact False.elim hq'
    | brk => exact False.elim hq'
    | cont => exact False.elim hq'
theorem pe_makeS (M : Mk X.K C f) (F : FnOk X.prog X.w X.K X.mg X.base CX k f fd ps sp) (hr : Room (k + 1) X.A) (hg : Gl X x) (hm : X.mg x = some (.ref C)) (hb : L2.Binds X.K fd ps []) (hx : ∀ σ, PassesAt CX X σ (E σ))
    (ha : PA X (e :: es) tt) (hdb : (x == ("__debug__" : Str)) = false := by decide) (he : starEach (e :: es) X.env = (false, eval e X.env) :: starEach es X.env := by rfl) (hpl : (backTo pos (starEach es X.env)).any (·.1) = false := by rfl) :
    PE X (.Call (.Name x p) (e :: es) [] pos) (tMakeS C sp E tt) := by
  refine ⟨fun pins s σ H Q I h => ?_⟩
  refine wpAny_Call_Name_kw (ld_glob I hg hm ?_ hdb)
  refine PySem.W.callWith_K (h₀ := X.base) I.ok.mod.kin M.kp (thn (ha.run pos pins s σ H _ I h) fun us s1 ⟨vs, H1, I1, r, q⟩ => ⟨I1.kIn, ?_⟩) he hpl
  exact run_makeS M F hr hb (hx σ) I1 r q
/-! ### a method is called -/
def tMethS (C : Addr) (m : Str) (sp : Sp) (E : L2.St → XK) (ta : TE) (t : TA) : TE := fun σ H Q => ta σ H fun x H1 => ∃ a dx fs, x = .ref a ∧ H1 a = some (.ins C dx fs) ∧ fs.lookup m = none ∧ t σ H1 fun vs H2 => sp (.ref a :: vs) H2 Q (E σ)
theorem pe_methS {pl : Sem Bool} (he : PE X ob ta) (c : Cls X.K C) (hm : Meth X.K C m f) (F : FnOk X.prog X.w X.K X.mg X.base CX k f fd ps sp) (hr : Room k X.A) (hb : L2.Binds X.K fd ps []) (hx : ∀ σ, PassesAt CX X σ (E σ)) (ha : PA X (e :: es) tt)
    (hst : starEach (e :: es) X.env = (false, eval e X.env) :: starEach es X.env := by rfl) (hpl : (backTo pos (starEach es X.env)).any (·.1) = false := by rfl)
    (ht : eval (.Call (.Attribute ob m apos) (e :: es) [] pos) X.env = (do
      let ov ← eval ob X.env
      standAt apos.atName
      let (f, first) ← holding [ov] (getMethod ov m pl)
      callWith pos f first (backTo pos (starEach (e :: es) X.env)) (backToKw pos (keywordEach [] X.env))) := by rfl) :
    PE X (.Call (.Attribute ob m apos) (e :: es) [] pos) (tMethS C m sp E ta tt) := by
  refine ⟨fun pins s σ H Q I h => ?_⟩
  refine PySem.W.methodCall_KW (pl := pl) (thn (he.run pins s σ H _ I h) fun u s1 ⟨x, H1, I1, rx, a, dx, fs, ex, ea, l, q⟩ => ?_) ht
  subst ex
  obtain rfl : u = Value.ref a := rx
  refine getmeth_ok I1 ea c hm l ?_
  refine PySem.W.callWith_K (first := [.ref a]) (h₀ := X.base) I.ok.mod.kin hm.kp (thn (ha.run pos pins s1 σ H1 _ I1 q) fun us s2 ⟨vs, H2, I2, r, q2⟩ => ⟨I2.kIn, ?_⟩) hst hpl
  exact run_fnS (us := .ref a :: us) (vs := .ref a :: vs) F hr hb (hx σ) I2 (.cons rfl r) q2
theorem pe_methS0 {pl : Sem Bool} (he : PE X ob ta) (c : Cls X.K C) (hm : Meth X.K C m f) (F : FnOk X.prog X.w X.K X.mg X.base CX k f fd ps sp) (hr : Room k X.A) (hb : L2.Binds X.K fd ps []) (hx : ∀ σ, PassesAt CX X σ (E σ))
    (ht : eval (.Call (.Attribute ob m apos) [] [] pos) X.env = (do
      let ov ← eval ob X.env
      standAt apos.atName
      let (f, first) ← holding [ov] (getMethod ov m pl)
      callWith pos f first (backTo pos (starEach [] X.env)) (backToKw pos (keywordEach [] X.env))) := by rfl) :
    PE X (.Call (.Attribute ob m apos) [] [] pos) (tMethS C m sp E ta tNil) := by
  refine ⟨fun pins s σ H Q I h => ?_⟩
  refine PySem.W.methodCall_KW (pl := pl) (thn (he.run pins s σ H _ I h) fun u s1 ⟨x, H1, I1, rx, a, dx, fs, ex, ea, l, q⟩ => ?_) ht
  subst ex
  obtain rfl : u = Value.ref a := rx
  refine getmeth_ok I1 ea c hm l ?_
  exact PySem.W.callWith_K0 (first := [.ref a]) I1.kIn hm.kp (run_fnS (us := [.ref a]) (vs := [.ref a]) F hr hb (hx σ) I1 (.cons rfl .nil) q)
/-! ### len of an instance -/
theorem call_lenO {pins : List (Addr × Obj)} {σ : L2.St} {H : Hp} {s : Shared} {Q : VK} {a dx : Addr} {fs : List (Str × V)} {Ex : XK} (I : Inv X pins σ H s) (ea : H a = some (.ins C dx fs)) (hm : Meth X.K C "__len__" f) (F : FnOk X.prog X.w X.K X.mg X.base CX k f fd ps sp) (hr : Room (k + 1) X.A) (hb : L2.Binds X.K fd ps [])
    (hx : Passes CX X.nox Ex) (h : sp [.ref a] H (fun v H' => ∃ n : Nat, v = .int n ∧ n < 2 ^ 63 ∧ Q (.int n) H') Ex) : wpAny (model X.prog X.w) X.A (call (.builtin "len") [.ref a]) (EP X pins σ Q) X.xe s := by
  obtain ⟨mA, O, _, _, _, _⟩ := ins_get I.hok ea
  obtain ⟨od, J, _⟩ := O.look
  have hl : ([Value.ref a]).length = ps.length := by
    rw [← F.len _ _ _ _ h] <;> rfl
  have b := hb s [.ref a] I.kIn (by rw [List.append_nil]; exact hl)
  rw [List.append_nil] at b
  refine Calls.call_function_entry kind_len plain_len entry_len (args_len1 _) ?_
  unfold Builtin.«len»
  refine wpAny_bind (m := oneArg "len" _) (wpAny_pure ?_)
  refine wpAny_bind (m := callSpecial? (.ref a) (Str.ofString "__len__")) ?_
  unfold callSpecial? specialOf
  refine wpAny_bind (wpAny_bind (J.type.here ((PySem.W.looks_findIn I.kIn hm.at_).here ?_)))
  refine wpAny_holding ?_
  refine wpAny_bind ((PySem.W.bind_fn I.kIn _ (beq_iff_eq.mp hm.fn)).here ?_)
  refine wpAny_bind (wpAny_call (codeAny_mono (F.run X.A.in1 X.stack s H ⟨[.ref a], []⟩ [.ref a] [.ref a] _ Ex hr.in1 I.env0.in1 b (.cons rfl .nil) h) fun r s' hq => ?_))
  cases r with
  | error er => exact False.elim (hx pins σ H s er s' (I.wish _) hq)
  | ok fl =>
    cases fl with
    | ret u =>
      obtain ⟨v, H', I3, rv, n, ev, hn, q3⟩ := I.after hq
      subst ev
      obtain ⟨tk, rfl⟩ := rv
      refine wpAny_pure ?_
      refine wpAny_bind (wpAny_holding (wpAny_pure ?_))
      refine wpAny_bind (wpAny_letGo ?_)
      show wpAny _ _ (if ((n : Nat) : Int) < 0 then _ else _) _ _ _
      rw [if_neg (by omega)]
      show wpAny _ _ (if ((n : Nat) : Int) ≥ 2 ^ 63 then _ else _) _ _ _
      rw [if_neg (by omega)]
      exact wpAny_bind (wpAny_mkInt (wpAny_pure ⟨_, rfl, .int n, H', I3.tok _, ⟨_, rfl⟩, q3⟩))
    | next => exact False.elim hq
    | brk => exact False.elim hq
    | cont => exact False.elim hq
def tLenO (C : Addr) (sp : Sp) (Ex : XK) (t : TE) : TE := fun σ H Q => t σ H fun x H1 => ∃ a dx fs, x = .ref a ∧ H1 a = some (.ins C dx fs) ∧ sp [.ref a] H1 (fun v H' => ∃ n : Nat, v = .int n ∧ n < 2 ^ 63 ∧ Q (.int n) H') Ex
theorem pe_lenO {Ex : XK} (hg : Gl X "len") (hm0 : X.mg "len" = none) (he : PE X e ta) (hm : Meth X.K C "__len__" f) (F : FnOk X.prog X.w X.K X.mg X.base CX k f fd ps sp) (hr : Room (k + 1) X.A) (hb : L2.Binds X.K fd ps []) (hx : Passes CX X.nox Ex)
    (na : starEach [e] X.env = (false, eval e X.env) :: starEach [] X.env := by rfl) : PE X (.Call (.Name "len" p) [e] [] pos) (tLenO C sp Ex ta) := by
  refine ⟨fun pins s σ H Q I h => ?_⟩
  refine Call_ (ld_blt I hg hm0 bt_len ?_)
  refine PyProof.Rows.callWith_builtin1 (PyProof.Rows.args_cons (thn (he.run pins s σ H _ I h) fun v s1 ⟨x, H1, I1, r1, a, dx, fs, ex, ea, q1⟩ => ?_) na) na rfl
  subst ex
  cases r1
  exact PyProof.Rows.args_nil (call_lenO I1 ea hm F hr hb hx q1)
end
/-! ### by data -/
/-- C(e, ..) -/
def eMake (C : Addr) (F : FN) (f : FA) : FE := fun s c => (f s c).bind fun ds c1 => (F (.cel c1.length :: ds) (c1 ++ [.ins C []])).bind fun d c2 => match d with | .non => .ok (.cel c1.length) c2 | _ => .bad
theorem Cells.ins (h : Cells K r o c H) {x dx C : Addr} (hx : H x = none) (hdx : H dx = none) (hne : dx ≠ x) : Step r H (r ++ [x]) (upd (upd H dx (.own x)) x (.ins C dx [])) ∧ Cells K (r ++ [x]) o (c ++ [.ins C []]) (upd (upd H dx (.own x)) x (.ins C dx [])) := by
  have h1 := h.new (u := .own x) hdx
  have hx1 : upd H dx (.own x) x = none := by rw [upd_ne (Ne.symm hne)]; exact hx
  have s1 : Step r H r (upd H dx (.own x)) := Step.new hdx
  have s2 : Step r (upd H dx (.own x)) (r ++ [x]) (upd (upd H dx (.own x)) x (.ins C dx [])) := Step.cell hx1 (h.fresh hx)
  refine ⟨s1.trans s2, h1.more hx1 s2 (fun a ha => by rw [upd_ne (h.ne hx ha)]) ⟨dx, [], upd_same, ⟨by rw [upd_ne hne, upd_same], ?_, h.freshO hdx⟩, rfl, .nil⟩⟩
  rw [List.mem_append, not_or]
  exact ⟨h.fresh hdx, by simpa using hne⟩
theorem snd_make {C : Addr} {F : FN} {ta : TA} {f : FA} (hf : SndA K W ta f) : SndE K W (tMakeS C (spR K F) (WE W) ta) (eMake C F f) := fun r o c s H t Q hc hs h =>
  hf r o c s H t _ hc hs (ok_bind h fun ds c1 r1 H1 vs s1 hc1 hv h1 x dx hx hdx hne => by
    obtain ⟨st, hc2⟩ := hc1.ins (C := C) hx hdx hne
    have ex : (r1 ++ [x])[c1.length]? = some x := by
      rw [← hc1.len, List.getElem?_append_right (Nat.le_refl _)]; simp
    refine ⟨_, o, _, .cel c1.length :: ds, hc2, .cons (.cel ex) (hv.mono st), ?_⟩
    have h2 := OkG.step st h1
    cases e : F (.cel c1.length :: ds) (c1 ++ [.ins C []]) with
    | ok d c2 =>
      rw [e] at h2
      intro r2 H2 v s2 hc3 hv3
      have h3 := OkG.step s2 h2
      cases hv3 with
      | non => exact ⟨rfl, h3.here hc3 (.cel (s2.at ex))⟩
      | _ => exact h3.elim
    | err x c2 => rw [e] at h2; exact h2
    | bad => rw [e] at h2; exact h2)
/-- a.m(e, ..) -/
def eMeth (C : Addr) (m : Str) (F : FN) (f : FE) (fa : FA) : FE := fun s c => (f s c).bind fun d c1 => match insOf c1 d with
  | some (_, C', fs) => if C' = C ∧ fs.lookup m = none then (fa s c1).bind fun ds c2 => F (d :: ds) c2 else .bad
  | none => .bad
theorem snd_meth {C : Addr} {m : Str} {F : FN} {te : TE} {ta : TA} {f : FE} {fa : FA} (hf : SndE K W te f) (ha : SndA K W ta fa) : SndE K W (tMethS C m (spR K F) (WE W) te ta) (eMeth C m F f fa) := fun r o c s H t Q hc hs h =>
  hf r o c s H t _ hc hs (ok_bind h fun d c1 r1 H1 v s1 hc1 hv h1 => by
    cases e1 : insOf c1 d with
    | none => simp only [e1] at h1; exact h1.elim
    | some p =>
      obtain ⟨n, C', fs⟩ := p
      simp only [e1] at h1
      split at h1
      · rename_i ec
        obtain ⟨rfl, hl⟩ := ec
        obtain ⟨rfl, e2, a, dx, vs, rfl, hn', hA, hd, hF⟩ := insOf_at hc1 hv e1
        refine ⟨a, dx, vs, rfl, hA, hF.look0 hl, ha r1 o c1 s H1 t _ hc1 (hs.mono s1) (ok_bind h1 fun ds c2 r2 H2 ws s2 hc2 hw h2 => ⟨r2, o, c2, .cel n :: ds, hc2, .cons (hv.mono s2) hw, ?_⟩)⟩
        cases e : F (.cel n :: ds) c2 with
        | ok d c3 => rw [e] at h2; exact h2
        | err x c3 => rw [e] at h2; exact h2
        | bad => rw [e] at h2; exact h2
      · exact h1.elim)
/-- a.x, a property -/
def eProp (C : Addr) (F : FN) (f : FE) : FE := fun s c => (f s c).bind fun d c1 => match insOf c1 d with
  | some (_, C', _) => if C' = C then (match F [d] c1 with | .ok z c2 => .ok z c2 | _ => .bad) else .bad
  | none => .bad
abbrev XN : XK := fun _ _ _ => False
theorem snd_prop {C : Addr} {F : FN} {te : TE} {f : FE} (hf : SndE K W te f) : SndE K W (tProp C (spR K F) [] XN te) (eProp C F f) := fun r o c s H t Q hc hs h =>
  hf r o c s H t _ hc hs (ok_bind h fun d c1 r1 H1 v s1 hc1 hv h1 => by
    cases e1 : insOf c1 d with
    | none => simp only [e1] at h1; exact h1.elim
    | some p =>
      obtain ⟨n, C', fs⟩ := p
      simp only [e1] at h1
      split at h1
      · rename_i ec
        subst ec
        obtain ⟨rfl, e2, a, dx, vs, rfl, hn', hA, hd, hF⟩ := insOf_at hc1 hv e1
        refine ⟨a, dx, vs, rfl, hA, r1, o, c1, [.cel n], hc1, .cons hv .nil, ?_⟩
        cases e : F [.cel n] c1 with
        | ok d c3 => simp only [e] at h1; exact h1
        | err x c3 => simp only [e] at h1; exact h1.elim
        | bad => simp only [e] at h1; exact h1.elim
      · exact h1.elim)
/-- len(a), a an instance -/
def eLenO (C : Addr) (F : FN) (f : FE) : FE := fun s c => (f s c).bind fun d c1 => match insOf c1 d with
  | some (_, C', _) => if C' = C then (match F [d] c1 with | .ok (.int i) c2 => if 0 ≤ i ∧ i < 2 ^ 63 then .ok (.int i) c2 else .bad | _ => .bad) else .bad
  | none => .bad
theorem snd_lenO {C : Addr} {F : FN} {te : TE} {f : FE} (hf : SndE K W te f) : SndE K W (tLenO C (spR K F) XN te) (eLenO C F f) := fun r o c s H t Q hc hs h =>
  hf r o c s H t _ hc hs (ok_bind h fun d c1 r1 H1 v s1 hc1 hv h1 => by
    cases e1 : insOf c1 d with
    | none => simp only [e1] at h1; exact h1.elim
    | some p =>
      obtain ⟨n, C', fs⟩ := p
      simp only [e1] at h1
      split at h1
      · rename_i ec
        subst ec
        obtain ⟨rfl, e2, a, dx, vs, rfl, hn', hA, hd, hF⟩ := insOf_at hc1 hv e1
        refine ⟨a, dx, vs, rfl, hA, r1, o, c1, [.cel n], hc1, .cons hv .nil, ?_⟩
        cases e : F [.cel n] c1 with
        | ok d c3 =>
          simp only [e] at h1
          split at h1
          · rename_i i c4 ei
            cases ei
            split at h1
            · rename_i hi
              intro r2 H2 w s2 hc2 hw
              have h3 := OkG.step s2 h1
              have ei : ((i.toNat : Nat) : Int) = i := Int.toNat_of_nonneg hi.1
              refine ⟨i.toNat, by rw [ei]; exact hw.int_inv, by omega, ?_⟩
              rw [ei]
              exact h3.here hc2 .int
            · exact h1.elim
          · exact h1.elim
        | err x c3 => simp only [e] at h1; exact h1.elim
        | bad => simp only [e] at h1; exact h1.elim
      · exact h1.elim)
theorem passXN {X : Cx} : Passes (L2.CX X.prog X.w) X XN := fun pins σ H s e s' I c => by
  obtain ⟨a, B, H', cls, d, _, _, _, _, _, _, _, z⟩ := c
  exact z.elim
/-! ### ready to be called -/
section
variable (P : Program) (w : World) (K : PySem.W.Frag) (mg : Str → Option Value) (base : Heap) (k : Nat) (C : Addr)
structure ReadyC (x : Str) (F : FN) : Prop where
  ex : ∃ (f : Addr) (fd : FuncData) (ps : List Str), FnOk P w K mg base (L2.CX P w) k f fd ps (spR K F) ∧ Mk K C f ∧ mg x = some (.ref C) ∧ L2.Binds K fd ps []
structure ReadyM (m : Str) (F : FN) : Prop where
  ex : ∃ (f : Addr) (fd : FuncData) (ps : List Str), FnOk P w K mg base (L2.CX P w) k f fd ps (spR K F) ∧ Cls K C ∧ Meth K C m f ∧ L2.Binds K fd ps []
structure ReadyP (x : Str) (F : FN) : Prop where
  ex : ∃ (p f : Addr) (fd : FuncData) (ps : List Str), FnOk P w K mg base (L2.CX P w) k f fd ps (spR K F) ∧ Cls K C ∧ PropOf K C x p f ∧ L2.Binds K fd ps []
end
section
variable {X : Cx} {C : Addr} {e ob : Expr} {es : List Expr} {f : FE} {fa : FA} {pos p apos : Pos} {k j : Nat} {x m : Str} {F : FN}
theorem re_make (c : ReadyC X.prog X.w X.K X.mg X.base k C x F) (tk : Takes X W) (hr : Room j X.A) (hk : k + 1 ≤ j) (hg : Gl X x) (ha : RA X W (e :: es) fa) (hdb : (x == ("__debug__" : Str)) = false := by decide)
    (he : starEach (e :: es) X.env = (false, eval e X.env) :: starEach es X.env := by rfl) (hpl : (backTo pos (starEach es X.env)).any (·.1) = false := by rfl) : RE X W (.Call (.Name x p) (e :: es) [] pos) (eMake C F fa) := by
  obtain ⟨f, fd, ps, h1, h2, h3, h4⟩ := c.ex
  obtain ⟨ta, h5, h6⟩ := ha
  exact ⟨_, pe_makeS h2 h1 (hr.mono hk) hg h3 h4 (fun σ => passAt tk σ) h5 hdb he hpl, snd_make h6⟩
theorem re_meth {pl : Sem Bool} (c : ReadyM X.prog X.w X.K X.mg X.base k C m F) (tk : Takes X W) (hr : Room j X.A) (hk : k ≤ j) (ho : RE X W ob f) (ha : RA X W (e :: es) fa)
    (hst : starEach (e :: es) X.env = (false, eval e X.env) :: starEach es X.env := by rfl) (hpl : (backTo pos (starEach es X.env)).any (·.1) = false := by rfl)
    (ht : eval (.Call (.Attribute ob m apos) (e :: es) [] pos) X.env = (do
      let ov ← eval ob X.env
      standAt apos.atName
      let (f, first) ← holding [ov] (getMethod ov m pl)
      callWith pos f first (backTo pos (starEach (e :: es) X.env)) (backToKw pos (keywordEach [] X.env))) := by rfl) : RE X W (.Call (.Attribute ob m apos) (e :: es) [] pos) (eMeth C m F f fa) := by
  obtain ⟨f, fd, ps, h1, h2, h3, h4⟩ := c.ex
  obtain ⟨ta, h5, h6⟩ := ha
  obtain ⟨te, h7, h8⟩ := ho
  exact ⟨_, pe_methS (pl := pl) h7 h2 h3 h1 (hr.mono hk) h4 (fun σ => passAt tk σ) h5 hst hpl ht, snd_meth h8 h6⟩
theorem re_meth0 {pl : Sem Bool} (c : ReadyM X.prog X.w X.K X.mg X.base k C m F) (tk : Takes X W) (hr : Room j X.A) (hk : k ≤ j) (ho : RE X W ob f)
    (ht : eval (.Call (.Attribute ob m apos) [] [] pos) X.env = (do
      let ov ← eval ob X.env
      standAt apos.atName
      let (f, first) ← holding [ov] (getMethod ov m pl)
      callWith pos f first (backTo pos (starEach [] X.env)) (backToKw pos (keywordEach [] X.env))) := by rfl) : RE X W (.Call (.Attribute ob m apos) [] [] pos) (eMeth C m F f aNil) := by
  obtain ⟨f, fd, ps, h1, h2, h3, h4⟩ := c.ex
  obtain ⟨te, h7, h8⟩ := ho
  exact ⟨_, pe_methS0 (pl := pl) h7 h2 h3 h1 (hr.mono hk) h4 (fun σ => passAt tk σ) ht, snd_meth h8 snd_nil⟩
theorem re_prop (c : ReadyP X.prog X.w X.K X.mg X.base k C x F) (hr : Room j X.A) (hk : k + 1 ≤ j) (he : RE X W e f) (hab : attributeBase e x X.env (eval e X.env) = eval e X.env := by rfl) : RE X W (.Attribute e x pos) (eProp C F f) := by
  obtain ⟨p, g, fd, ps, h1, h2, h3, h4⟩ := c.ex
  obtain ⟨te, h7, h8⟩ := he
  exact ⟨_, pe_prop h7 h2 h3 h1 (hr.mono hk) h4 .nil (passXN (X := X.nox)) hab, snd_prop h8⟩
theorem re_lenO (c : ReadyM X.prog X.w X.K X.mg X.base k C "__len__" F) (hr : Room j X.A) (hk : k + 1 ≤ j) (hg : Gl X "len") (hm0 : X.mg "len" = none) (he : RE X W e f) (na : starEach [e] X.env = (false, eval e X.env) :: starEach [] X.env := by rfl) : RE X W (.Call (.Name "len" p) [e] [] pos) (eLenO C F f) := by
  obtain ⟨g, fd, ps, h1, h2, h3, h4⟩ := c.ex
  obtain ⟨te, h7, h8⟩ := he
  exact ⟨_, pe_lenO hg hm0 h7 h3 h1 (hr.mono hk) h4 (passXN (X := X.nox)) na, snd_lenO h8⟩
end
/-! ### {} -/
/-- {}, a dict that is changed later -/
def eDic (w : World) : FE := fun _ c => .ok (.cel c.length) (c ++ [.dic w []])
theorem pe_dnewX {X : Cx} {pos : Pos} : PE X (.Dict [] [] pos) (fun _ H Q => ∀ p, H p = none → Q (.ref p) (upd H p (dicO X.w p [] [] []))) := ⟨fun pins s σ H Q I h =>
  wpAny_Dict_empty ⟨.ref s.heap.objs.size, _, I.laid (a := s.heap.objs.size) (o := dicO X.w s.heap.objs.size [] [] []) (t' := s.toks) (fun _ _ q => Heap.get?_push_of_some _ q) (Nat.le_refl _) (by
    have hp := Heap.get?_push_size s.heap (o := { cls := .type "dict", data := .dict #[] }) rfl
    refine ⟨⟨beq_eq_false_iff_ne.mpr (Ne.symm (Nat.ne_of_lt I.big)), [], rfl, rfl, .nil, _, #[], 0, hp, ⟨rfl, rfl, rfl⟩, rfl, rfl, List.nodup_nil⟩, ⟨_, hp⟩, fun h1 h2 q k => ?_⟩
    obtain ⟨q1, ys, q2, q3, q4, ob, es, ep, q5, q6⟩ := q
    exact ⟨q1, ys, q2, q3, q4, ob, es, ep, k _ q5, q6⟩), rfl, h _ (I.hok.fresh (Nat.le_refl _))⟩⟩
theorem re_dic {X : Cx} {pos : Pos} : RE X W (.Dict [] [] pos) (eDic X.w) := by
  refine ⟨_, pe_dnewX, fun r o c s H t Q hc hs h p hp => ?_⟩
  refine h _ _ _ (Step.cell hp (hc.fresh hp)) (hc.more hp (Step.cell hp (hc.fresh hp)) (fun a ha => by rw [upd_ne (hc.ne hp ha)]) ⟨[], [], upd_same, .nil, .nil⟩) (.cel ?_)
  rw [← hc.len, List.getElem?_append_right (Nat.le_refl _)]; simp
end RL

set_option Elab.async false
set_option linter.all false
set_option maxRecDepth 100000
set_option maxHeartbeats 4000000
/-! ## methods, constructors, properties by the head's facts; a Hook that sees any function -/
namespace RL
open PySem PySem.Spec PyProof.Rows L2
open He (ga ma ba eqO eqO_ok)
/-! ### any function, by a path -/
structure FnX where
  ad : PySem.W.Frag → Addr
  name : Str
  qual : Str
  params : Arguments
  body : List Stmt
  scope : Scope
  clo : List Str
def fnX (K : PySem.W.Frag) (d : FnX) : FnI := match K.lookup (d.ad K) with
  | some ⟨_, _, .func fd, _⟩ => some (fd.name, fd.qualname, fd.params, fd.body, fd.scope, fd.globals, fd.closure.map (·.1), fd.defaults, fd.kwdefaults, fd.builtins)
  | _ => none
def FnX.val (d : FnX) : FnI := some (d.name, d.qual, d.params, .stmts d.body, d.scope, mainGlobals, d.clo, .none, .none, builtinsNs)
/-- an error class's own __init__ -/
def FnX.ofIni (d : IniD) : FnX := ⟨fun K => ma K (ga K d.cls) "__init__", "__init__", d.cls ++ ".__init__", d.params, d.body, d.scope, ["__class__"]⟩
/-- a property's getter -/
def prG (K : PySem.W.Frag) (cls x : Str) : Addr := match PySem.W.recIn K (ma K (ga K cls) x) "property" with
  | some (.ref g :: _) => g
  | _ => 0
def FnX.ofProp (cls x : Str) (params : Arguments) (body : List Stmt) (scope : Scope) : FnX := ⟨fun K => prG K cls x, x, cls ++ "." ++ x, params, body, scope, []⟩
def cdB (K : PySem.W.Frag) (a : Addr) (q : Str) : Bool := PySem.W.keepIn K (.ref a) && (match K.lookup a with
  | some ⟨_, _, .func fd, _⟩ => PySem.W.codeIn K fd.code q
  | _ => false)
theorem fnX_funD {K : PySem.W.Frag} {d : FnX} (e : fnX K d = d.val) (hc : d.clo = []) (c : cdB K (d.ad K) d.qual = true) : ∃ fd, FunD K d.name d.qual d.params d.body d.scope [] [] (d.ad K) fd := by
  obtain ⟨kp, c2⟩ := ba c
  unfold fnX at e
  cases q : K.lookup (d.ad K) with
  | none =>
    rw [q] at c2
    cases c2
  | some o =>
    obtain ⟨oc, od, dt, osl⟩ := o
    rw [q] at c2 e
    cases dt with
    | func fd =>
      obtain ⟨n1, n2, n3, n4, n5, n6, n7, n8, n9, n10, n11, n12, n13, n14, n15⟩ := fd
      have e2 : (some (n1, n2, n3, n4, n5, n6, n7.map (·.1), n8, n9, n15) : FnI) = some (d.name, d.qual, d.params, .stmts d.body, d.scope, mainGlobals, d.clo, .none, .none, builtinsNs) := e
      simp only [Option.some.injEq, Prod.mk.injEq] at e2
      obtain ⟨h1, h2, h3, h4, h5, h6, h7, h8, h9, h10⟩ := e2
      rw [hc] at h7
      have h7' : n7 = [] := by
        cases n7 with
        | nil => rfl
        | cons a b => cases h7
      subst h1 h2 h3 h4 h5 h6 h7' h8 h9 h10
      exact ⟨_, ⟨oc, od, .none, .none, n10, n11, n12, n13, n14, osl, rfl, q, c2, .inl ⟨rfl, rfl⟩, He.kwdB_ok (K := K) (kV := .none) (kws := []) rfl⟩, kp⟩
    | _ => cases c2
/-- x is a property of the class cls -/
def prB (K : PySem.W.Frag) (cls x : Str) : Bool :=
  eqO (PySem.W.findIn K (.ref (ga K cls)) x) (some (some (.ref (ma K (ga K cls) x)))) && (eqO (PySem.W.specialIn K (.ref (ma K (ga K cls) x)) "__get__") (some (some (.builtin "property.__get__"))) && (decide (PySem.W.takesIn K (.ref (ma K (ga K cls) x)) = some true) &&
  ((match PySem.W.recIn K (ma K (ga K cls) x) "property" with | some (.ref _ :: _) => true | _ => false) && cdB K (prG K cls x) (cls ++ "." ++ x))))
theorem prB_ok {K : PySem.W.Frag} {cls x : Str} (h : prB K cls x = true) : PropOf K (ga K cls) x (ma K (ga K cls) x) (prG K cls x) ∧ cdB K (prG K cls x) (cls ++ "." ++ x) = true := by
  unfold prB at h
  obtain ⟨h1, h⟩ := ba h
  obtain ⟨h2, h⟩ := ba h
  obtain ⟨h3, h⟩ := ba h
  obtain ⟨h4, h5⟩ := ba h
  refine ⟨⟨eqO_ok h1, eqO_ok h2, of_decide_eq_true h3, ?_⟩, h5⟩
  split at h4
  · rename_i g rest e
    refine ⟨rest, ?_⟩
    unfold prG
    rw [e]
  · cases h4
/-! ### the Hook -/
structure SaysX (fa : List He.Fa) (fn : List He.DefD) (xs : List FnX) (tf : List He.Defn) (ex : PySem.W.Frag → Bool) (h : Heap) (K : PySem.W.Frag) : Prop where
  d : He.SaysD fa fn K
  i : xs.map (fnX K) = xs.map FnX.val
  more : ex K = true
  hd : ∀ p ∈ tf, PySem.W.codeHdIn K (He.cT K p).1 (He.cT K p).2 = true
  out : ∀ p ∈ tf, K.lookup (He.cT K p).2 = none
  empty : ∀ p ∈ tf, h.get? (He.cT K p).2 = some { cls := .none, data := .fields #[] }
def obsX (n : Nat) (fa : List He.Fa) (fn : List He.DefD) (xs : List FnX) (tf : List He.Defn) (ex : PySem.W.Frag → Bool) (g : Addr → Option Obj) : AlR := (He.obsD fa fn (frR g n), xs.map (fnX (frR g n)), ex (frR g n) && He.tabsB g tf (frR g n))
def valX (fn : List He.DefD) (xs : List FnX) : AlR := (He.valD fn, xs.map FnX.val, true)
theorem saysX_of {n : Nat} {fa : List He.Fa} {fn : List He.DefD} {xs : List FnX} {tf : List He.Defn} {ex : PySem.W.Frag → Bool} {h : Heap} (e : obsX n fa fn xs tf ex h.get? = valX fn xs) : SaysX fa fn xs tf ex h (frR h.get? n) := by
  have e1 : He.obsD fa fn (frR h.get? n) = He.valD fn := congrArg (fun z : AlR => z.1) e
  have e2 : xs.map (fnX (frR h.get? n)) = xs.map FnX.val := congrArg (fun z : AlR => z.2.1) e
  have e3 : (ex (frR h.get? n) && He.tabsB h.get? tf (frR h.get? n)) = true := congrArg (fun z : AlR => z.2.2) e
  obtain ⟨h1, h2⟩ := ba e3
  have key : ∀ p ∈ tf, PySem.W.codeHdIn (frR h.get? n) (He.cT (frR h.get? n) p).1 (He.cT (frR h.get? n) p).2 = true ∧ ∃ o, h.get? (He.cT (frR h.get? n) p).2 = some o ∧ He.emptyTab o = true := fun p hp => by
    obtain ⟨h3, h4⟩ := ba (List.all_eq_true.mp h2 p hp)
    refine ⟨h3, ?_⟩
    cases q : h.get? (He.cT (frR h.get? n) p).2 with
    | none => rw [q] at h4; cases h4
    | some o => rw [q] at h4; exact ⟨o, rfl, h4⟩
  exact ⟨e1, e2, h1, fun p hp => (key p hp).1, fun p hp => by
    obtain ⟨_, o, q, z⟩ := key p hp
    exact He.frT_none q z, fun p hp => by
    obtain ⟨_, o, q, z⟩ := key p hp
    rw [q, He.emptyTab_eq z]⟩
def hookX (n : Nat) (fa : List He.Fa) (fn : List He.DefD) (xs : List FnX) (tf : List He.Defn) (ex : PySem.W.Frag → Bool) : PySem.W.Hook where
  α := AlR
  obs := fun s => obsX n fa fn xs tf ex s.heap.get?
  val := fun _ => valX fn xs
  says := fun _ h => ∃ K : PySem.W.Frag, K.In h ∧ SaysX fa fn xs tf ex h K
  of := fun _ _ e => ⟨_, He.frT_in, saysX_of e⟩
  keeps := fun _ _ _ ⟨K, hK, c⟩ k => ⟨K, PySem.W.Frag.In.keeps hK k, ⟨c.d, c.i, c.more, c.hd, c.out, fun p hp => k _ _ (c.empty p hp)⟩⟩
theorem obsX_eq {n : Nat} {fa : List He.Fa} {fn : List He.DefD} {xs : List FnX} {tf : List He.Defn} {ex : PySem.W.Frag → Bool} {g : Addr → Option Obj} {s : Shared} (h : ∀ a, g a = s.heap.get? a) : obsX n fa fn xs tf ex g = (hookX n fa fn xs tf ex).obs s := by
  have e : g = s.heap.get? := funext h
  rw [e] <;> rfl
section
variable {fa : List He.Fa} {fn : List He.DefD} {xs : List FnX} {tf : List He.Defn} {ex : PySem.W.Frag → Bool} {h base : Heap} {K : PySem.W.Frag} {mg : Str → Option Value}
theorem SaysX.fx (c : SaysX fa fn xs tf ex h K) (i : Nat) {d : FnX} (e : xs[i]? = some d := by rfl) : fnX K d = d.val := by
  have e2 : (xs.map (fnX K))[i]? = (xs.map FnX.val)[i]? := by rw [c.i]
  rw [List.getElem?_map, List.getElem?_map, e] at e2
  exact Option.some.inj e2
theorem SaysX.ini (c : SaysX fa fn xs tf ex h K) (i : Nat) {d : IniD} (e : xs[i]? = some (FnX.ofIni d) := by rfl) : fnI K d.cls = d.val := c.fx i e
theorem SaysX.at (X : K.In base) (G : base.Ns mainGlobals mg) (c : SaysX fa fn xs tf ex h K) {x : Str} {params : Arguments} {body : List Stmt} {scope : Scope} (i j : Nat) (e : fn[i]? = some ⟨(x, none), x, x, params, body, scope, [], []⟩ := by rfl) (e2 : fa[j]? = some (.glo x) := by rfl) : DefAt K mg x params body scope :=
  ⟨c.d.def_ i e, He.glo_ok X G (c.d.fact j e2)⟩
/-- a method -/
def MethD (K : PySem.W.Frag) (cls m : Str) (params : Arguments) (body : List Stmt) (scope : Scope) : Prop := ∃ fd, FunD K m (cls ++ "." ++ m) params body scope [] [] (ma K (ga K cls) m) fd
theorem SaysX.meth (c : SaysX fa fn xs tf ex h K) {cls m : Str} {params : Arguments} {body : List Stmt} {scope : Scope} (i : Nat) (e : fn[i]? = some ⟨(cls, some m), m, cls ++ "." ++ m, params, body, scope, [], []⟩ := by rfl) : MethD K cls m params body scope := c.d.def_ i e
/-- a property -/
def PropD (K : PySem.W.Frag) (cls x : Str) (params : Arguments) (body : List Stmt) (scope : Scope) : Prop := PropOf K (ga K cls) x (ma K (ga K cls) x) (prG K cls x) ∧ ∃ fd, FunD K x (cls ++ "." ++ x) params body scope [] [] (prG K cls x) fd
theorem SaysX.prop (c : SaysX fa fn xs tf ex h K) {cls x : Str} {params : Arguments} {body : List Stmt} {scope : Scope} (i : Nat) (hB : prB K cls x = true) (e : xs[i]? = some (FnX.ofProp cls x params body scope) := by rfl) : PropD K cls x params body scope :=
  ⟨(prB_ok hB).1, fnX_funD (c.fx i e) rfl (prB_ok hB).2⟩
end
section
variable {P : Program} {w : World} {K : PySem.W.Frag} {mg : Str → Option Value} {base : Heap} {cls m : Str} {params : Arguments} {body : List Stmt} {scope : Scope} {N ps : List Str} {n i k : Nat} {b : FS}
theorem ready_meth (D : MethD K cls m params body scope) (hc : Cls K (ga K cls)) (hm : Meth K (ga K cls) m (ma K (ga K cls) m)) (S : FnScope N ps scope) (hn : ps.length = n) (hi : N.length = i)
    (hbind : ∀ (kV doc pm : Value) (an : Option Addr) (cdv ct : Value) (us : List Value), us.length = ps.length → bindArgs (PySem.W.fnOf m (cls ++ "." ++ m) params body scope .none kV doc pm an cdv ct) ⟨us, []⟩ = pure (ps.zip us))
    (hb : ∀ (cc : Addr) (A : Around) (outer : List Env) (s : Shared) (H : Hp) (E : XK), cc = He.codeOf K (cls, some m) → Room k (A.deeper (envOfC (cls ++ "." ++ m) scope s.heap.objs.size (ma K (ga K cls) m) (.ref cc))) →
      RSs (cxOf (L2.CX P w) P w K mg base N (cls ++ "." ++ m) scope (ma K (ga K cls) m) (.ref cc) A outer s H E) (WF E) body b) : ReadyM P w K mg base (k + 1) (ga K cls) m (mkF n i b) := by
  obtain ⟨fd, F⟩ := D
  refine ⟨ma K (ga K cls) m, fd, ps, fn_mkD F S hn hi fun cc A outer s H E ⟨oc, od, osl, lk, e⟩ hr => hb cc A outer s H E ?_ hr, hc, hm, F.bindsN hbind⟩
  exact (He.codeOf_eq (p := (cls, some m)) lk e).symm
theorem ready_ctor (D : MethD K cls "__init__" params body scope) (M : Mk K (ga K cls) (ma K (ga K cls) "__init__")) (g : mg cls = some (.ref (ga K cls))) (S : FnScope N ps scope) (hn : ps.length = n) (hi : N.length = i)
    (hbind : ∀ (kV doc pm : Value) (an : Option Addr) (cdv ct : Value) (us : List Value), us.length = ps.length → bindArgs (PySem.W.fnOf "__init__" (cls ++ "." ++ "__init__") params body scope .none kV doc pm an cdv ct) ⟨us, []⟩ = pure (ps.zip us))
    (hb : ∀ (cc : Addr) (A : Around) (outer : List Env) (s : Shared) (H : Hp) (E : XK), cc = He.codeOf K (cls, some "__init__") → Room k (A.deeper (envOfC (cls ++ "." ++ "__init__") scope s.heap.objs.size (ma K (ga K cls) "__init__") (.ref cc))) →
      RSs (cxOf (L2.CX P w) P w K mg base N (cls ++ "." ++ "__init__") scope (ma K (ga K cls) "__init__") (.ref cc) A outer s H E) (WF E) body b) : ReadyC P w K mg base (k + 1) (ga K cls) cls (mkF n i b) := by
  obtain ⟨fd, F⟩ := D
  refine ⟨ma K (ga K cls) "__init__", fd, ps, fn_mkD F S hn hi fun cc A outer s H E ⟨oc, od, osl, lk, e⟩ hr => hb cc A outer s H E ?_ hr, M, g, F.bindsN hbind⟩
  exact (He.codeOf_eq (p := (cls, some "__init__")) lk e).symm
theorem ready_prop (D : PropD K cls m params body scope) (hc : Cls K (ga K cls)) (S : FnScope N ps scope) (hn : ps.length = n) (hi : N.length = i)
    (hbind : ∀ (kV doc pm : Value) (an : Option Addr) (cdv ct : Value) (us : List Value), us.length = ps.length → bindArgs (PySem.W.fnOf m (cls ++ "." ++ m) params body scope .none kV doc pm an cdv ct) ⟨us, []⟩ = pure (ps.zip us))
    (hb : ∀ (cc : Addr) (A : Around) (outer : List Env) (s : Shared) (H : Hp) (E : XK), Room k (A.deeper (envOfC (cls ++ "." ++ m) scope s.heap.objs.size (prG K cls m) (.ref cc))) →
      RSs (cxOf (L2.CX P w) P w K mg base N (cls ++ "." ++ m) scope (prG K cls m) (.ref cc) A outer s H E) (WF E) body b) : ReadyP P w K mg base (k + 1) (ga K cls) m (mkF n i b) := by
  obtain ⟨hp, fd, F⟩ := D
  exact ⟨ma K (ga K cls) m, prG K cls m, fd, ps, fn_mkD F S hn hi fun cc A outer s H E _ hr => hb cc A outer s H E hr, hc, hp, F.bindsN hbind⟩
end
/-! ### the law's end -/
theorem law_atX {l : PySem.W.OpenLaw} {w : World} {K : PySem.W.Frag} {k n : Nat} {x : Str} {mg : Str → Option Value} {fa : Addr} {h : Heap} {tf : List (He.Defn × Str)} {fdef : List He.Fa} {fn : List He.DefD} {xs : List FnX} {ex : PySem.W.Frag → Bool} {F : PySem.W.Frag → FN} {fd : FuncData}
    (KX : K.In h) (c : SaysX fdef fn xs (tf.map (·.1)) ex h K) (hnd : (tf.map fun p => (He.cT K p.1).2).Nodup) (hb : ∀ (s : Shared) (u : Value), BindsTo s fd ⟨[u], []⟩ [(x, u)])
    (hlaw : ∀ ns : List Int, ns.length ≤ n → (∀ z ∈ ns, Builtin.Int.intBits z ≤ 1048576) → ∃ c', F K [.scr (ns.map D.int)] (cells0 K tf) = .ok (.bl true) c')
    (hF : ∀ base : Heap, K.In base → base.Ns mainGlobals mg → (∀ p ∈ tf, LamX.TabB base mg (He.cT K p.1).1 (He.cT K p.1).2) → FnOk l.prog w K mg base (L2.CX l.prog w) k fa fd [x] (spR K (F K))) :
    LamX.LawAtS l w K (L2.CX l.prog w) k n x mg fa h := by
  have mem : ∀ p ∈ tf.map (fun p => He.cT K p.1), ∃ q ∈ tf.map (·.1), p = He.cT K q := fun p hp => by
    obtain ⟨q, hq, e⟩ := List.mem_map.mp hp
    exact ⟨q.1, List.mem_map.mpr ⟨q, hq, rfl⟩, e.symm⟩
  refine ⟨fd, tf.map (fun p => He.cT K p.1), spR K (F K), fun p hp => ?_, fun p hp => ?_, fun p hp => ?_, hb, fun H a ns hl hbits hT hS => ?_, fun base hK hN hTB => hF base hK hN fun p hp => hTB _ (List.mem_map.mpr ⟨p, hp, rfl⟩)⟩
  · obtain ⟨q, hq, rfl⟩ := mem p hp
    exact c.empty q hq
  · obtain ⟨q, hq, rfl⟩ := mem p hp
    exact c.out q hq
  · obtain ⟨q, hq, rfl⟩ := mem p hp
    exact PySem.W.codeHd_of_K KX (c.hd q hq)
  · obtain ⟨c', e⟩ := hlaw ns hl hbits
    have hT' : ∀ p ∈ tf, H (He.cT K p.1).2 = some (.tbl #[]) := fun p hp => hT (He.cT K p.1) (List.mem_map.mpr ⟨p, hp, rfl⟩)
    have hcl := cells0_ok hnd hT'
    refine ⟨_, [], _, [.scr (ns.map D.int)], hcl, .cons (.scr ?_ (isl_ints ns)) .nil, ?_⟩
    · rcases hS with z | z
      · refine .inl ⟨fun hm => ?_, by simp, z⟩
        obtain ⟨p, hp, ep⟩ := List.mem_map.mp hm
        have := hT' p hp
        rw [ep] at this
        rcases z with z | ⟨ob, z⟩ <;> rw [this] at z <;> cases z
      · exact .inr z
    · rw [e]
      exact fun r' H' v _ _ hv => hv.bl_inv
end RL

set_option Elab.async false
set_option linter.all false
set_option maxRecDepth 100000
set_option maxHeartbeats 4000000
namespace RL
open PySem PySem.Spec PyProof.Rows L2
variable {K : PySem.W.Frag} {r r' r1 r2 o o' o1 : List Addr} {H H' H1 H2 : Hp} {c c' c1 c2 : Cs} {W : WX} {t : L2.St}
/-- list * int -/
def oMulL : D → D → Cs → Res D := fun d e c => match d, e with
  | .lst l, .int k => if 0 ≤ k ∧ k ≤ 1000 ∧ l.length ≤ 1000 then .ok (.lst (List.replicate k.toNat l).flatten) c else .bad
  | _, _ => .bad
theorem ro_mulL {X : Cx} : RO X W (binaryOp .Mult) oMulL := by
  refine ⟨_, op_rep, fun r o c H t Q d e x y hc hd he h => ?_⟩
  unfold oMulL at h
  split at h
  · rename_i l k
    split at h
    · rename_i z
      obtain ⟨a, us, rfl, ha, hl⟩ := hd.lst_inv
      refine ⟨a, k, us, rfl, he.int_inv, ha.2.2, by omega, by omega, ?_, fun p hp => h _ _ _ (Step.new hp) (hc.new hp) (Is.newLst hc hp (hl.rep _))⟩
      rw [← hl.length]
      have h1 : l.length * k.toNat ≤ 1000 * 1000 := Nat.mul_le_mul z.2.2 (by omega)
      exact Nat.le_trans h1 (by decide)
    · exact h.elim
  · exact h.elim
def oMulB : D → D → Cs → Res D := fun d e c => match d with | .lst _ => oMulL d e c | _ => oMulA d e c
theorem ro_mulB {X : Cx} : RO X W (binaryOp .Mult) oMulB := by
  obtain ⟨q1, h1, h2⟩ := ro_mulA (X := X) (W := W)
  obtain ⟨q2, h3, h4⟩ := ro_mulL (X := X) (W := W)
  refine ⟨_, h1.or h3, fun r o c H t Q d e x y hc hd he h => ?_⟩
  cases d with
  | lst l => exact .inr (h4 r o c H t Q _ e x y hc hd he h)
  | _ => exact .inl (h2 r o c H t Q _ e x y hc hd he h)
/-- a, b as the target of a comprehension -/
theorem pg_tp {X : Cx} {es : List Expr} {k : Nat} {pos : Pos} {is : List Nat} (hc : X.calm = true) (h : PGs X es (gNames is)) (hn : (assignEach es X.env).length = is.length := by rfl) (hst : (assignEach es X.env).findIdx? (·.1) = none := by rfl) : PG X (.Tuple es k pos) ((Tg.tp is).g X.K) :=
  pg_tup hc h hn hst
end RL

set_option Elab.async false
set_option linter.all false
set_option maxRecDepth 100000
set_option maxHeartbeats 4000000
/-! ## plain lemmas for every law: comprehensions, texts, keys, equality, small steps -/
namespace RL
open PySem PySem.Spec PyProof.Rows L2
variable {K : PySem.W.Frag}
theorem atI_nat {α : Type} {xs : List α} {n : Nat} (h : n < xs.length) : atI xs (n : Int) = some xs[n] := by
  unfold atI ixN
  rw [if_pos (Int.natCast_nonneg n), if_pos (by exact_mod_cast h)]
  simp [h]
theorem atI_int {α : Type} {xs : List α} {p : Int} (h0 : 0 ≤ p) (h1 : p < xs.length) : ∃ n : Nat, ∃ h : n < xs.length, p = n ∧ atI xs p = some xs[n] := by
  obtain ⟨n, rfl⟩ := Int.eq_ofNat_of_zero_le h0
  have h2 : n < xs.length := by omega
  exact ⟨n, h2, rfl, atI_nat h2⟩
theorem atI_ints {ds : List Int} {p : Int} (h0 : 0 ≤ p) (h1 : p < ds.length) : ∃ z, atI (ds.map D.int) p = some (.int z) := by
  obtain ⟨n, h2, rfl, e⟩ := atI_int (xs := ds.map D.int) h0 (by simpa using h1)
  exact ⟨ds[n]'(by simpa using h2), by rw [e]; simp⟩
theorem atI4_0 {α : Type} {a b c d : α} : atI [a, b, c, d] 0 = some a := rfl
theorem atI4_1 {α : Type} {a b c d : α} : atI [a, b, c, d] 1 = some b := rfl
theorem atI4_2 {α : Type} {a b c d : α} : atI [a, b, c, d] 2 = some c := rfl
theorem atI4_3 {α : Type} {a b c d : α} : atI [a, b, c, d] 3 = some d := rfl
theorem compL_map {j : Nat} {f : FE} {s0 : Sl} {g : D → D} {c : Cs} : ∀ {ds acc : List D}, acc.length + ds.length ≤ 100000 → (∀ d ∈ ds, f (s0.set j (some d)) c = .ok (g d) c) → compL (.nm j) (fun _ c => .ok true c) f s0 ds acc c = .ok (acc ++ ds.map g) c
  | [], acc, _, _ => by simp [compL]
  | d :: ds, acc, h1, h2 => by
    have e := h2 d List.mem_cons_self
    have h3 : acc.length < 100000 := by simp at h1; omega
    have ih := compL_map (j := j) (f := f) (s0 := s0) (g := g) (c := c) (ds := ds) (acc := acc ++ [g d]) (by simp at h1 ⊢; omega) (fun x hx => h2 x (List.mem_cons_of_mem _ hx))
    simp [compL, Tg.set, e, h3, ih]
theorem compL_pick {j : Nat} {p : FT} {f : FE} {s0 : Sl} {q : D → Bool} {g : D → D} {c : Cs} : ∀ {ds acc : List D}, acc.length + ds.length ≤ 100000 → (∀ d ∈ ds, p (s0.set j (some d)) c = .ok (q d) c) → (∀ d ∈ ds, q d = true → f (s0.set j (some d)) c = .ok (g d) c) →
    compL (.nm j) p f s0 ds acc c = .ok (acc ++ (ds.filter q).map g) c
  | [], acc, _, _, _ => by simp [compL]
  | d :: ds, acc, h1, h2, h4 => by
    have e := h2 d List.mem_cons_self
    have h3 : acc.length < 100000 := by simp at h1; omega
    cases eq : q d with
    | true =>
      have e4 := h4 d List.mem_cons_self eq
      have ih := compL_pick (j := j) (p := p) (f := f) (s0 := s0) (q := q) (g := g) (c := c) (ds := ds) (acc := acc ++ [g d]) (by simp at h1 ⊢; omega) (fun x hx => h2 x (List.mem_cons_of_mem _ hx)) (fun x hx => h4 x (List.mem_cons_of_mem _ hx))
      simp [compL, Tg.set, e, eq, e4, h3, ih]
    | false =>
      have ih := compL_pick (j := j) (p := p) (f := f) (s0 := s0) (q := q) (g := g) (c := c) (ds := ds) (acc := acc) (by simp at h1 ⊢; omega) (fun x hx => h2 x (List.mem_cons_of_mem _ hx)) (fun x hx => h4 x (List.mem_cons_of_mem _ hx))
      simp [compL, Tg.set, e, eq, ih]
theorem compL_inv {j : Nat} {f : FE} {s0 : Sl} (I : Cs → Prop) (R : D → Prop) : ∀ {ds acc : List D} {c : Cs}, acc.length + ds.length ≤ 100000 → I c → (∀ d ∈ ds, ∀ c, I c → ∃ y c', f (s0.set j (some d)) c = .ok y c' ∧ R y ∧ I c') →
    ∃ ys c', compL (.nm j) (fun _ c => .ok true c) f s0 ds acc c = .ok (acc ++ ys) c' ∧ ys.length = ds.length ∧ (∀ y ∈ ys, R y) ∧ I c'
  | [], acc, c, _, hI, _ => ⟨[], c, by simp [compL], rfl, by simp, hI⟩
  | d :: ds, acc, c, h1, hI, h2 => by
    obtain ⟨y, c1, e, hR, hI1⟩ := h2 d List.mem_cons_self c hI
    have h3 : acc.length < 100000 := by simp at h1; omega
    obtain ⟨ys, c2, ih, hl, hy, hI2⟩ := compL_inv I R (j := j) (f := f) (s0 := s0) (ds := ds) (acc := acc ++ [y]) (c := c1) (by simp at h1 ⊢; omega) hI1 (fun x hx => h2 x (List.mem_cons_of_mem _ hx))
    refine ⟨y :: ys, c2, ?_, by simp [hl], ?_, hI2⟩
    · simp [compL, Tg.set, e, h3, ih]
    · intro z hz
      rcases List.mem_cons.mp hz with rfl | hz
      · exact hR
      · exact hy z hz
theorem rngC_len {lo st : Int} {n : Nat} : (rngC lo st n).length = n := by simp [rngC]
def AL : List Nat := [97, 98, 99, 100, 101, 102, 103, 104, 105, 106, 107, 108, 109, 110, 111, 112, 113, 114, 115, 116, 117, 118, 119, 120, 121, 122]
theorem AB_eq : Str.ofString "abcdefghijklmnopqrstuvwxyz" = SX.S AL := by decide +kernel
structure Wd (w : List Nat) : Prop where
  lo : 1 ≤ w.length
  hi : w.length ≤ 12
  al : ∀ k ∈ w, 97 ≤ k ∧ k ≤ 122
theorem joinL_ones : ∀ w : List Nat, TL.joinL [] (w.map fun k => [k]) = w
  | [] => rfl
  | [_] => rfl
  | x :: y :: w => by
    have ih := joinL_ones (y :: w)
    simp [TL.joinL] at ih ⊢
    exact ih
theorem ones_of : ∀ {ys : List D}, (∀ y ∈ ys, ∃ k, y = .str (SX.S [k]) ∧ 97 ≤ k ∧ k ≤ 122) → ∃ w : List Nat, ys = w.map (fun k => .str (SX.S [k])) ∧ ∀ k ∈ w, 97 ≤ k ∧ k ≤ 122
  | [], _ => ⟨[], rfl, by simp⟩
  | y :: ys, h => by
    obtain ⟨k, rfl, h1⟩ := h y List.mem_cons_self
    obtain ⟨w, rfl, h2⟩ := ones_of (fun z hz => h z (List.mem_cons_of_mem _ hz))
    refine ⟨k :: w, rfl, ?_⟩
    intro z hz
    rcases List.mem_cons.mp hz with rfl | hz
    · exact h1
    · exact h2 z hz
theorem strsOf_ones : ∀ w : List Nat, strsOf (w.map fun k => D.str (SX.S [k])) = some ((w.map fun k => [k]).map SX.S)
  | [] => rfl
  | k :: w => by
    have ih := strsOf_ones w
    simp [strsOf] at ih ⊢
    exact ih
theorem join_ones (w : List Nat) : Txt.join (Str.ofString "") ((w.map fun k => [k]).map SX.S) = SX.S w := by
  have e : Str.ofString "" = SX.S [] := by decide +kernel
  rw [e, SX.join_S, joinL_ones]
theorem lens_ones (w : List Nat) : (((w.map fun k => [k]).map SX.S).map (·.length)).sum = w.length := by
  induction w with
  | nil => rfl
  | cons k w ih =>
    simp only [List.map_cons, List.sum_cons, ih, SX.S_len, List.length_cons, List.length_nil]
    omega
theorem eJoin_ones {f g : FE} {s : Sl} {c c1 c2 : Cs} {w : List Nat} (hf : f s c = .ok (.str (Str.ofString "")) c1) (hg : g s c1 = .ok (.lst (w.map fun k => .str (SX.S [k]))) c2) (hw : w.length ≤ 100000) : eJoin f g s c = .ok (.str (SX.S w)) c2 := by
  have e0 : (Str.ofString "").length = 0 := by decide +kernel
  simp only [eJoin, hf, Res.bind_ok, hg, seqOf, Option.bind_some, strsOf_ones]
  rw [lens_ones, e0, join_ones]
  simp [hw]
theorem bases_ok : ∀ x ∈ [Str.ofString "a", Str.ofString "ab", Str.ofString "ab", Str.ofString "abc", Str.ofString "aqz", Str.ofString "abcdefghijklmnopqrstuvwxyz"], (0 < x.length ∧ x.length ≤ 100000) ∧ ∀ k ∈ x.cps.toList, 97 ≤ k ∧ k ≤ 122 := by decide +kernel
theorem eq_str {x y : Str} {c : Cs} (hx : PyData.strOk x = true) (hy : PyData.strOk y = true) : oEq (.str x) (.str y) c = .ok (.bl (x == y)) c := by
  simp [oEq, eqD, pyTop, pyOf, SeqAt.shaped, PyData.canLay0, PyData.depth, PyData.eqv, hx, hy]
theorem eq_int {x y : Int} {c : Cs} : oEq (.int x) (.int y) c = .ok (.bl (x == y)) c := by
  simp [oEq, eqD, pyTop, pyOf, SeqAt.shaped, PyData.canLay0, PyData.depth, PyData.eqv]
theorem ne_int {x y : Int} {c : Cs} : oNe (.int x) (.int y) c = .ok (.bl (!(x == y))) c := by
  simp [oNe, eqD, pyTop, pyOf, SeqAt.shaped, PyData.canLay0, PyData.depth, PyData.eqv]
theorem eq_bl {x y : Bool} {c : Cs} : oEq (.bl x) (.bl y) c = .ok (.bl (x == y)) c := by
  simp [oEq, eqD, pyTop, pyOf, SeqAt.shaped, PyData.canLay0, PyData.depth, PyData.eqv]
theorem ne_bl {x y : Bool} {c : Cs} : oNe (.bl x) (.bl y) c = .ok (.bl (!(x == y))) c := by
  simp [oNe, eqD, pyTop, pyOf, SeqAt.shaped, PyData.canLay0, PyData.depth, PyData.eqv]
theorem eq_nn {c : Cs} : oEq (.str "numbers") (.str "numbers") c = .ok (.bl true) c := by kernel_rfl
theorem eq_wn {c : Cs} : oEq (.str "words") (.str "numbers") c = .ok (.bl false) c := by kernel_rfl
theorem eq_nw {c : Cs} : oEq (.str "numbers") (.str "words") c = .ok (.bl false) c := by kernel_rfl
theorem eq_ww {c : Cs} : oEq (.str "words") (.str "words") c = .ok (.bl true) c := by kernel_rfl
/-- a key of the family -/
def IsKey (f : Str) (d : D) : Prop := (f = "numbers" ∧ ∃ k : Nat, d = .int k ∧ k < 65536) ∨ (f = "words" ∧ ∃ w, d = .str (SX.S w) ∧ Wd w)
inductive Ky where
  | num (k : Nat) | wrd (w : List Nat)
  deriving DecidableEq
def Ky.fam : Ky → Str
  | .num _ => "numbers"
  | .wrd _ => "words"
def Ky.dat : Ky → D
  | .num k => .int k
  | .wrd w => .str (SX.S w)
def Ky.Ok : Ky → Prop
  | .num k => k < 65536
  | .wrd w => Wd w
def Ky.lts : Ky → List Nat
  | .num k => [k / 4096 % 16, k / 256 % 16, k / 16 % 16, k % 16]
  | .wrd w => w.map (· - 96) ++ [0]
def Ky.wid : Ky → Nat
  | .num _ => 4
  | .wrd _ => 5
theorem ky_of {f : Str} {d : D} (h : IsKey f d) : ∃ y : Ky, y.Ok ∧ f = y.fam ∧ d = y.dat := by
  rcases h with ⟨rfl, k, rfl, h⟩ | ⟨rfl, w, rfl, h⟩
  · exact ⟨.num k, h, rfl, rfl⟩
  · exact ⟨.wrd w, h, rfl, rfl⟩
def nats (l : List Nat) : List D := l.map fun n => D.int ((n : Nat) : Int)
def bitsN (w n : Nat) : List Nat := (List.range w).map fun i => n / 2 ^ (w - 1 - i) % 2
def bts (w : Nat) (l : List Nat) : List Nat := l.flatMap (bitsN w)
theorem nats_app (a b : List Nat) : nats (a ++ b) = nats a ++ nats b := by simp [nats]
theorem nats_len (a : List Nat) : (nats a).length = a.length := by simp [nats]
theorem bitsN_len (w n : Nat) : (bitsN w n).length = w := by simp [bitsN]
theorem bts_len (w : Nat) : ∀ l : List Nat, (bts w l).length = w * l.length
  | [] => rfl
  | n :: l => by
    have ih := bts_len w l
    simp only [bts, List.flatMap_cons, List.length_append, bitsN_len, List.length_cons] at ih ⊢
    rw [ih, Nat.mul_add]; omega
theorem Ky.lts_len {y : Ky} (h : y.Ok) : y.lts.length ≤ 13 ∧ 2 ≤ y.lts.length := by
  cases y with
  | num k => simp [Ky.lts]
  | wrd w =>
    obtain ⟨h1, h2, h3⟩ := (h : Wd w)
    simp [Ky.lts]; omega
theorem Ky.lts_lt {y : Ky} (h : y.Ok) : ∀ n ∈ y.lts, n < 2 ^ y.wid := by
  cases y with
  | num k => simp [Ky.lts, Ky.wid]; omega
  | wrd w =>
    obtain ⟨h1, h2, h3⟩ := (h : Wd w)
    intro n hn
    simp [Ky.lts] at hn
    rcases hn with ⟨a, ha, rfl⟩ | rfl
    · have := h3 a ha
      simp [Ky.wid]; omega
    · simp [Ky.wid]
theorem band15 (n : Nat) : Builtin.bitAnd (n : Int) 15 = ((n % 16 : Nat) : Int) := by
  have h : (0 : Int) ≤ n := Int.natCast_nonneg n
  have e : n &&& 15 = n % 16 := Nat.and_two_pow_sub_one_eq_mod n 4
  simp [Builtin.bitAnd, h, e]
theorem band1 (n : Nat) : Builtin.bitAnd (n : Int) 1 = ((n % 2 : Nat) : Int) := by
  have h : (0 : Int) ≤ n := Int.natCast_nonneg n
  simp [Builtin.bitAnd, h]
theorem occ_al : ∀ k ∈ AL, ∃ r, Builtin.Str.occurrences (SX.S AL) (SX.S [k]) 0 (SX.S AL).length 1 = (k - 97) :: r := by
  have h : ∀ k ∈ AL, (Builtin.Str.occurrences (SX.S AL) (SX.S [k]) 0 (SX.S AL).length 1).head? = some (k - 97) := by decide +kernel
  intro k hk
  have := h k hk
  cases e : Builtin.Str.occurrences (SX.S AL) (SX.S [k]) 0 (SX.S AL).length 1 with
  | nil => rw [e] at this; cases this
  | cons a r => rw [e] at this; cases this; exact ⟨r, rfl⟩
theorem mem_al {k : Nat} (h : 97 ≤ k ∧ k ≤ 122) : k ∈ AL := by
  have : ∀ j : Fin 26, 97 + j.val ∈ AL := by decide
  have e := this ⟨k - 97, by omega⟩
  have : 97 + (k - 97) = k := by omega
  simpa [this] using e
theorem eIdx_al {f g : FE} {s : Sl} {c c1 c2 : Cs} {k : Nat} (hf : f s c = .ok (.str (Str.ofString "abcdefghijklmnopqrstuvwxyz")) c1) (hg : g s c1 = .ok (.str (SX.S [k])) c2) (hk : 97 ≤ k ∧ k ≤ 122) : eIdx f g s c = .ok (.int ((k - 97 : Nat) : Int)) c2 := by
  obtain ⟨r, e⟩ := occ_al k (mem_al hk)
  rw [AB_eq] at hf
  simp only [eIdx, hf, Res.bind_ok, hg, e]
theorem signs_S (w : List Nat) : RL.signs (SX.S w) = w.map fun k => D.str (SX.S [k]) := by simp [RL.signs]
theorem eComp_map {src : FA} {j : Nat} {f : FE} {vs : List Nat} {s : Sl} {c c1 : Cs} {ds : List D} (g : D → D) (hs : src s c = .ok ds c1) (hl : ds.length ≤ 100000) (h : ∀ d ∈ ds, f ((wipeD s vs).set j (some d)) c1 = .ok (g d) c1) :
    eComp src (.nm j) (fun _ c => .ok true c) f vs s c = .ok (.lst (ds.map g)) c1 := by
  have e := compL_map (j := j) (f := f) (s0 := wipeD s vs) (g := g) (c := c1) (ds := ds) (acc := []) (by simpa using hl) h
  simp only [eComp, hs, Res.bind_ok, e, List.nil_append]
theorem bits_of4 (n : Nat) : bitsN 4 n = [n / 8 % 2, n / 4 % 2, n / 2 % 2, n % 2] := by simp [bitsN, List.range, List.range.loop]
theorem bits_of5 (n : Nat) : bitsN 5 n = [n / 16 % 2, n / 8 % 2, n / 4 % 2, n / 2 % 2, n % 2] := by simp [bitsN, List.range, List.range.loop]
theorem Ky.wid_of (y : Ky) : y.wid = 4 ∨ y.wid = 5 := by cases y <;> simp [Ky.wid]
theorem kt_str_str : kitBs "str" ["str"] = some true := by kernel_rfl
theorem kt_str_int : kitBs "str" ["int"] = some false := by kernel_rfl
theorem kt_str_bool : kitBs "str" ["bool"] = some false := by kernel_rfl
theorem kt_str_tuple : kitBs "str" ["tuple"] = some false := by kernel_rfl
theorem kt_str_list : kitBs "str" ["list"] = some false := by kernel_rfl
theorem kt_str_dict : kitBs "str" ["dict"] = some false := by kernel_rfl
theorem kt_str_tl : kitBs "str" ["tuple", "list"] = some false := by kernel_rfl
theorem kt_int_str : kitBs "int" ["str"] = some false := by kernel_rfl
theorem kt_int_int : kitBs "int" ["int"] = some true := by kernel_rfl
theorem kt_int_bool : kitBs "int" ["bool"] = some false := by kernel_rfl
theorem kt_int_tuple : kitBs "int" ["tuple"] = some false := by kernel_rfl
theorem kt_int_list : kitBs "int" ["list"] = some false := by kernel_rfl
theorem kt_int_dict : kitBs "int" ["dict"] = some false := by kernel_rfl
theorem kt_int_tl : kitBs "int" ["tuple", "list"] = some false := by kernel_rfl
theorem kt_bool_str : kitBs "bool" ["str"] = some false := by kernel_rfl
theorem kt_bool_int : kitBs "bool" ["int"] = some true := by kernel_rfl
theorem kt_bool_bool : kitBs "bool" ["bool"] = some true := by kernel_rfl
theorem kt_bool_tuple : kitBs "bool" ["tuple"] = some false := by kernel_rfl
theorem kt_bool_list : kitBs "bool" ["list"] = some false := by kernel_rfl
theorem kt_bool_dict : kitBs "bool" ["dict"] = some false := by kernel_rfl
theorem kt_bool_tl : kitBs "bool" ["tuple", "list"] = some false := by kernel_rfl
theorem kt_NoneType_str : kitBs "NoneType" ["str"] = some false := by kernel_rfl
theorem kt_NoneType_int : kitBs "NoneType" ["int"] = some false := by kernel_rfl
theorem kt_NoneType_bool : kitBs "NoneType" ["bool"] = some false := by kernel_rfl
theorem kt_NoneType_tuple : kitBs "NoneType" ["tuple"] = some false := by kernel_rfl
theorem kt_NoneType_list : kitBs "NoneType" ["list"] = some false := by kernel_rfl
theorem kt_NoneType_dict : kitBs "NoneType" ["dict"] = some false := by kernel_rfl
theorem kt_NoneType_tl : kitBs "NoneType" ["tuple", "list"] = some false := by kernel_rfl
theorem kt_tuple_str : kitBs "tuple" ["str"] = some false := by kernel_rfl
theorem kt_tuple_int : kitBs "tuple" ["int"] = some false := by kernel_rfl
theorem kt_tuple_bool : kitBs "tuple" ["bool"] = some false := by kernel_rfl
theorem kt_tuple_tuple : kitBs "tuple" ["tuple"] = some true := by kernel_rfl
theorem kt_tuple_list : kitBs "tuple" ["list"] = some false := by kernel_rfl
theorem kt_tuple_dict : kitBs "tuple" ["dict"] = some false := by kernel_rfl
theorem kt_tuple_tl : kitBs "tuple" ["tuple", "list"] = some true := by kernel_rfl
theorem kt_list_str : kitBs "list" ["str"] = some false := by kernel_rfl
theorem kt_list_int : kitBs "list" ["int"] = some false := by kernel_rfl
theorem kt_list_bool : kitBs "list" ["bool"] = some false := by kernel_rfl
theorem kt_list_tuple : kitBs "list" ["tuple"] = some false := by kernel_rfl
theorem kt_list_list : kitBs "list" ["list"] = some true := by kernel_rfl
theorem kt_list_dict : kitBs "list" ["dict"] = some false := by kernel_rfl
theorem kt_list_tl : kitBs "list" ["tuple", "list"] = some true := by kernel_rfl
theorem qL_all {j : Nat} {f : FE} {s0 : Sl} {q : D → Bool} {c : Cs} : ∀ {ds : List D}, (∀ d ∈ ds, f (s0.set j (some d)) c = .ok (.bl (q d)) c) → qL false (.nm j) f s0 ds c = .ok (ds.all q) c
  | [], _ => rfl
  | d :: ds, h => by
    have ih := qL_all (j := j) (f := f) (s0 := s0) (q := q) (c := c) (ds := ds) (fun x hx => h x (List.mem_cons_of_mem _ hx))
    have e := h d List.mem_cons_self
    cases eq : q d with
    | true => simp [qL, Tg.set, e, eq, ih]
    | false => simp [qL, Tg.set, e, eq]
theorem qL_any {j : Nat} {f : FE} {s0 : Sl} {q : D → Bool} {c : Cs} : ∀ {ds : List D}, (∀ d ∈ ds, f (s0.set j (some d)) c = .ok (.bl (q d)) c) → qL true (.nm j) f s0 ds c = .ok (ds.any q) c
  | [], _ => rfl
  | d :: ds, h => by
    have ih := qL_any (j := j) (f := f) (s0 := s0) (q := q) (c := c) (ds := ds) (fun x hx => h x (List.mem_cons_of_mem _ hx))
    have e := h d List.mem_cons_self
    cases eq : q d with
    | true => simp [qL, Tg.set, e, eq]
    | false => simp [qL, Tg.set, e, eq, ih]
def sgnD : D → Nat
  | .str x => (x.cps[0]?).getD 0
  | _ => 0
theorem all_al {w : List Nat} (h : ∀ k ∈ w, 97 ≤ k ∧ k ≤ 122) : w.all (fun k => decide (k ∈ AL)) = true := by
  rw [List.all_eq_true]
  exact fun k hk => decide_eq_true (mem_al (h k hk))
/-- which is less at the first place where both part -/
def forkB : List Nat → List Nat → Option Bool
  | x :: l, y :: m => if x = y then forkB l m else some (decide (x < y))
  | _, _ => none
theorem fork_pre : ∀ (p l m : List Nat), forkB (p ++ l) (p ++ m) = forkB l m
  | [], _, _ => rfl
  | x :: p, l, m => by
    have ih := fork_pre p l m
    simp [forkB, ih]
theorem fork_app : ∀ {l m x y : List Nat} {t : Bool}, forkB l m = some t → forkB (l ++ x) (m ++ y) = some t
  | [], _, _, _, _, h => by simp [forkB] at h
  | _ :: _, [], _, _, _, h => by simp [forkB] at h
  | a :: l, b :: m, x, y, t, h => by
    simp only [forkB, List.cons_append] at h ⊢
    split
    · rename_i e
      rw [if_pos e] at h
      exact fork_app h
    · rename_i e
      rw [if_neg e] at h
      exact h
theorem fork_bit {w a b : Nat} (hw : w = 4 ∨ w = 5) (ha : a < 2 ^ w) (hb : b < 2 ^ w) (hn : a ≠ b) : forkB (bitsN w a) (bitsN w b) = some (decide (a < b)) := by
  rcases hw with rfl | rfl
  · have h : ∀ a : Fin 16, ∀ b : Fin 16, a.val ≠ b.val → forkB (bitsN 4 a.val) (bitsN 4 b.val) = some (decide (a.val < b.val)) := by decide +kernel
    exact h ⟨a, ha⟩ ⟨b, hb⟩ hn
  · have h : ∀ a : Fin 32, ∀ b : Fin 32, a.val ≠ b.val → forkB (bitsN 5 a.val) (bitsN 5 b.val) = some (decide (a.val < b.val)) := by decide +kernel
    exact h ⟨a, ha⟩ ⟨b, hb⟩ hn
theorem fork_bts {w : Nat} (hw : w = 4 ∨ w = 5) : ∀ {l m : List Nat} {t : Bool}, (∀ n ∈ l, n < 2 ^ w) → (∀ n ∈ m, n < 2 ^ w) → forkB l m = some t → forkB (bts w l) (bts w m) = some t
  | [], _, _, _, _, h => by simp [forkB] at h
  | _ :: _, [], _, _, _, h => by simp [forkB] at h
  | a :: l, b :: m, t, hl, hm, h => by
    have ea : bts w (a :: l) = bitsN w a ++ bts w l := by simp [bts]
    have eb : bts w (b :: m) = bitsN w b ++ bts w m := by simp [bts]
    rw [ea, eb]
    simp only [forkB] at h
    by_cases e : a = b
    · rw [if_pos e] at h
      subst e
      rw [fork_pre]
      exact fork_bts hw (fun n hn => hl n (List.mem_cons_of_mem _ hn)) (fun n hn => hm n (List.mem_cons_of_mem _ hn)) h
    · rw [if_neg e] at h
      rw [← h]
      exact fork_app (fork_bit hw (hl a List.mem_cons_self) (hm b List.mem_cons_self) e)
def ltK : Ky → Ky → Bool
  | .num a, .num b => decide (a < b)
  | .wrd a, .wrd b => decide (a < b)
  | _, _ => false
theorem fork_wrd : ∀ {a b : List Nat}, (∀ k ∈ a, 97 ≤ k ∧ k ≤ 122) → (∀ k ∈ b, 97 ≤ k ∧ k ≤ 122) → a ≠ b → forkB (a.map (· - 96) ++ [0]) (b.map (· - 96) ++ [0]) = some (decide (a < b))
  | [], [], _, _, h => (h rfl).elim
  | [], y :: b, _, hb, _ => by
    have := hb y List.mem_cons_self
    have e : (0 : Nat) ≠ y - 96 := by omega
    have e2 : 0 < y - 96 := by omega
    simp [forkB, e, e2]
  | x :: a, [], ha, _, _ => by
    have := ha x List.mem_cons_self
    have e : x - 96 ≠ 0 := by omega
    simp [forkB, e]
  | x :: a, y :: b, ha, hb, h => by
    have h1 := ha x List.mem_cons_self
    have h2 := hb y List.mem_cons_self
    by_cases e : x = y
    · subst e
      have ih := fork_wrd (a := a) (b := b) (fun k hk => ha k (List.mem_cons_of_mem _ hk)) (fun k hk => hb k (List.mem_cons_of_mem _ hk)) (fun q => h (by rw [q]))
      simp [forkB, ih]
    · have e1 : x - 96 ≠ y - 96 := by omega
      have e2 : decide (x - 96 < y - 96) = decide (x < y) := by
        rw [decide_eq_decide]; omega
      have e3 : (x :: a < y :: b) ↔ x < y := by
        rw [List.cons_lt_cons_iff]
        exact ⟨fun q => q.elim id (fun q => (e q.1).elim), .inl⟩
      simp [forkB, e1, e, e2, e3]
theorem fork_num {a b : Nat} (ha : a < 65536) (hb : b < 65536) (h : a ≠ b) : forkB (Ky.num a).lts (Ky.num b).lts = some (decide (a < b)) := by
  simp only [Ky.lts, forkB]
  split
  · split
    · split
      · split
        · omega
        · simp; omega
      · simp; omega
    · simp; omega
  · simp; omega
theorem fork_ky {y z : Ky} (hy : y.Ok) (hz : z.Ok) (hf : y.fam = z.fam) (h : y ≠ z) : forkB (bts y.wid y.lts) (bts z.wid z.lts) = some (ltK y z) := by
  have nw : Str.ofString "numbers" ≠ Str.ofString "words" := by decide +kernel
  cases y with
  | num a =>
    cases z with
    | num b => exact fork_bts (.inl rfl) (Ky.lts_lt hy) (Ky.lts_lt hz) (fork_num hy hz (fun e => h (by rw [e])))
    | wrd b => exact (nw hf).elim
  | wrd a =>
    cases z with
    | num b => exact (nw hf.symm).elim
    | wrd b => exact fork_bts (.inr rfl) (Ky.lts_lt hy) (Ky.lts_lt hz) (fork_wrd (Wd.al hy) (Wd.al hz) (fun e => h (by rw [e])))
theorem strOk_w {w : List Nat} (h : ∀ k ∈ w, 97 ≤ k ∧ k ≤ 122) : PyData.strOk (SX.S w) = true := by
  unfold PyData.strOk
  rw [Array.all_eq_true']
  intro k hk
  have := h k (by simpa using hk)
  simp; omega
theorem eq_dat {y z : Ky} {c : Cs} (hy : y.Ok) (hz : z.Ok) (hf : y.fam = z.fam) : oEq y.dat z.dat c = .ok (.bl (decide (y = z))) c := by
  have nw : Str.ofString "numbers" ≠ Str.ofString "words" := by decide +kernel
  cases y with
  | num a =>
    cases z with
    | num b =>
      have e : ((a : Int) == (b : Int)) = decide (a = b) := by
        rw [Bool.eq_iff_iff]; simp; omega
      simp [Ky.dat, eq_int, e]
    | wrd b => exact (nw hf).elim
  | wrd a =>
    cases z with
    | num b => exact (nw hf.symm).elim
    | wrd b =>
      simp only [Ky.dat]
      rw [eq_str (strOk_w (Wd.al hy)) (strOk_w (Wd.al hz)), SX.S_beq_eq]
      simp
theorem lt_dat {y z : Ky} {c : Cs} (hf : y.fam = z.fam) : oLt y.dat z.dat c = .ok (.bl (ltK y z)) c := by
  have nw : Str.ofString "numbers" ≠ Str.ofString "words" := by decide +kernel
  cases y with
  | num a =>
    cases z with
    | num b => simp [Ky.dat, oLt, ltK]
    | wrd b => exact (nw hf).elim
  | wrd a =>
    cases z with
    | num b => exact (nw hf.symm).elim
    | wrd b => simp [Ky.dat, oLt, ltK]
theorem intsOf_nats : ∀ l : List Nat, intsOf (nats l) = some (l.map fun n : Nat => (n : Int))
  | [] => rfl
  | n :: l => by
    have ih := intsOf_nats l
    simp only [nats] at ih ⊢
    simp [intsOf, ih]
theorem lex_fork : ∀ {l m : List Nat} {t : Bool}, forkB l m = some t → HT.lexLt (l.map fun n : Nat => (n : Int)) (m.map fun n : Nat => (n : Int)) = t
  | [], _, _, h => by simp [forkB] at h
  | _ :: _, [], _, h => by simp [forkB] at h
  | a :: l, b :: m, t, h => by
    simp only [forkB] at h
    simp only [List.map_cons, HT.lexLt_cons]
    by_cases e : a = b
    · rw [if_pos e] at h
      subst e
      rw [if_pos rfl]
      exact lex_fork h
    · rw [if_neg e] at h
      rw [if_neg (by omega)]
      cases h
      simp
theorem lex_same : ∀ l : List Int, HT.lexLt l l = false
  | [] => rfl
  | a :: l => by rw [HT.lexLt_cons, if_pos rfl]; exact lex_same l
theorem ltK_self (y : Ky) : ltK y y = false := by
  cases y with
  | num a => simp [ltK]
  | wrd a => simp [ltK, List.lt_irrefl]
theorem lt_bits {y z : Ky} {c : Cs} (hy : y.Ok) (hz : z.Ok) (hf : y.fam = z.fam) : oLt (.tup (nats (bts y.wid y.lts))) (.tup (nats (bts z.wid z.lts))) c = .ok (.bl (ltK y z)) c := by
  simp only [oLt, intsOf_nats]
  by_cases e : y = z
  · subst e
    rw [lex_same, ltK_self]
  · rw [lex_fork (fork_ky hy hz hf e)]
structure Place (l m : List Nat) (i : Nat) : Prop where
  lo : i < l.length
  hi : i < m.length
  same : ∀ j, j < i → l[j]? = m[j]?
  part : l[i]? ≠ m[i]?
theorem fork_place : ∀ {l m : List Nat} {t : Bool}, forkB l m = some t → ∃ i, Place l m i
  | [], _, _, h => by simp [forkB] at h
  | _ :: _, [], _, h => by simp [forkB] at h
  | a :: l, b :: m, t, h => by
    simp only [forkB] at h
    by_cases e : a = b
    · rw [if_pos e] at h
      subst e
      obtain ⟨i, h1, h2, h3, h4⟩ := fork_place h
      refine ⟨i + 1, by simpa using h1, by simpa using h2, fun j hj => ?_, by simpa using h4⟩
      cases j with
      | zero => rfl
      | succ j => simpa using h3 j (by omega)
    · exact ⟨0, by simp, by simp, fun j hj => by omega, by simpa using e⟩
theorem ix_nats {l : List Nat} {j : Nat} {c : Cs} (h : j < l.length) : oIx (.tup (nats l)) (.int (j : Nat)) c = .ok (.int ((l[j] : Nat) : Int)) c := by
  have e := atI_nat (xs := nats l) (n := j) (by rw [nats_len]; exact h)
  simp only [oIx, seqOf, e]
  simp [nats]
theorem Ky.bts_len {y : Ky} (h : y.Ok) : (bts y.wid y.lts).length ≤ 65 := by
  have hl := Ky.lts_len h
  rw [RL.bts_len]
  rcases y.wid_of with e | e <;> rw [e] <;> omega
theorem rng0 (n : Nat) : rngC 0 1 n = (List.range n).map fun k : Nat => D.int (k : Int) := by simp [rngC]
theorem rng1_nat {f : FA} {s : Sl} {c c1 : Cs} {i : Int} {n : Nat} (hi : i = (n : Int)) (h : f s c = .ok [.int i] c1) (hn : n ≤ 1000000) : fRng1 f s c = .ok (rngC 0 1 n) c1 := by
  have h0 : (0 : Int) ≤ i := by omega
  have h1 : i ≤ 1000000 := by omega
  have hb : -(2 ^ 62) ≤ i ∧ i < 2 ^ 62 := by omega
  have e : i.toNat = n := by omega
  simp only [fRng1, h, Res.bind_ok, if_pos hb, e]
theorem min_nat {a b : Nat} : (if (b : Int) < (a : Int) then (b : Int) else (a : Int)) = ((min a b : Nat) : Int) := by
  by_cases h : b < a
  · rw [if_pos (by omega), Nat.min_eq_right (by omega)]
  · rw [if_neg (by omega), Nat.min_eq_left (by omega)]
/-- plain data of this depth at most -/
inductive Pl : Nat → D → Prop
  | non {n} : Pl (n + 1) .non
  | bl {n b} : Pl (n + 1) (.bl b)
  | int {n i} : Pl (n + 1) (.int i)
  | str {n x} (h : PyData.strOk x = true) : Pl (n + 1) (.str x)
  | tup {n l} (h : l.length ≤ 100000) (h2 : ∀ x ∈ l, Pl n x) : Pl (n + 1) (.tup l)
  | lst {n l} (h : l.length ≤ 100000) (h2 : ∀ x ∈ l, Pl n x) : Pl (n + 1) (.lst l)
theorem eq_nil {c : Cs} : oEq (.lst []) (.lst []) c = .ok (.bl true) c := by kernel_rfl
theorem eq_non {c : Cs} : oEq .non .non c = .ok (.bl true) c := by kernel_rfl
theorem sSeq_rt {f g : FS} {s : Sl} {c c1 : Cs} {d : D} (h : f s c = .rt d c1) : sSeq f g s c = .rt d c1 := by
  unfold sSeq; rw [h]; rfl
theorem sSeq_nx {f g : FS} {s s1 : Sl} {c c1 : Cs} (h : f s c = .nx s1 c1) : sSeq f g s c = g s1 c1 := by
  unfold sSeq; rw [h]; rfl
theorem sIf_t {p : FT} {f g : FS} {s : Sl} {c c1 : Cs} (h : p s c = .ok true c1) : sIf p f g s c = f s c1 := by
  unfold sIf; rw [h]; rfl
theorem sIf_f {p : FT} {f g : FS} {s : Sl} {c c1 : Cs} (h : p s c = .ok false c1) : sIf p f g s c = g s c1 := by
  unfold sIf; rw [h]; rfl
theorem sIf_fn {p : FT} {f : FS} {s : Sl} {c c1 : Cs} (h : p s c = .ok false c1) : sIf p f sNext s c = .nx s c1 := by
  unfold sIf; rw [h]; rfl
theorem sRet_ok {f : FE} {s : Sl} {c c1 : Cs} {d : D} (h : f s c = .ok d c1) : sRet f s c = .rt d c1 := by
  unfold sRet; rw [h]; rfl
theorem tsOr_ff {p q : FT} {s : Sl} {c c1 c2 : Cs} (h : p s c = .ok false c1) (h2 : q s c1 = .ok false c2) : tsOr p q s c = .ok false c2 := by
  unfold tsOr; rw [h]; exact h2
theorem tsNot_t {p : FT} {s : Sl} {c c1 : Cs} (h : p s c = .ok true c1) : tsNot p s c = .ok false c1 := by
  unfold tsNot; rw [h]; rfl
theorem eLst_nil {s : Sl} {c : Cs} : eLst aNil s c = .ok (.lst []) c := by
  simp [eLst, aNil]
theorem alike_comp {R : FN} {d : D} {l : List D} {c : Cs} {a3 : Option D} (hd : seqOf c d = some l) (ht : ∀ x, d ≠ .str x) (hl : l.length ≤ 100000) (ih : ∀ x ∈ l, R [x, x] c = .ok (.bl true) c) :
    eComp (fRng1 (aCons (eCall fLen (aCons (eVar 1) aNil)) aNil)) (.nm 2) (tsNot (tsE (eCall R (aCons (eOp oIx (eVar 0) (eVar 2)) (aCons (eOp oIx (eVar 1) (eVar 2)) aNil))))) (eVar 2) [2] [some d, some d, none, a3] c = .ok (.lst []) c := by
  have hlen : fLen [d] c = .ok (.int (l.length : Int)) c := by
    cases d with
    | str x => exact (ht x rfl).elim
    | _ => simp only [fLen, hd]
  have hs := rng1_nat (f := aCons (eCall fLen (aCons (eVar 1) aNil)) aNil) (s := [some d, some d, none, a3]) (c := c) (c1 := c) (n := l.length) rfl (by
    show Res.bind (fLen [d] c) _ = _
    rw [hlen]; rfl) (by omega)
  have hix : ∀ k : Nat, (h : k < l.length) → oIx d (.int (k : Int)) c = .ok l[k] c := fun k h => by
    have e := atI_nat (xs := l) h
    cases d with
    | str x => exact (ht x rfl).elim
    | _ => simp only [oIx, hd, e]
  have e := compL_pick (j := 2) (p := tsNot (tsE (eCall R (aCons (eOp oIx (eVar 0) (eVar 2)) (aCons (eOp oIx (eVar 1) (eVar 2)) aNil))))) (f := eVar 2) (s0 := [some d, some d, none, a3]) (q := fun _ => false) (g := id) (c := c) (ds := rngC 0 1 l.length) (acc := [])
    (by rw [rngC_len]; simpa using hl) (fun x hx => by
      rw [rng0] at hx
      obtain ⟨k, hk, rfl⟩ := List.mem_map.mp hx
      have hk2 : k < l.length := List.mem_range.mp hk
      have e1 := hix k hk2
      have e2 := ih l[k] (List.getElem_mem hk2)
      simp [tsNot, tsE, eCall, aCons, aNil, eOp, eVar, e1, e2]) (fun d _ h => by cases h)
  simp only [eComp, hs, Res.bind_ok, wipeD, List.set_cons_succ, List.set_cons_zero, e]
  simp
theorem tup_er {R : FN} {c : Cs} {l : List D} (h1 : l.length ≤ 100000) (ih : ∀ x ∈ l, R [x, x] c = .ok (.bl true) c) : eOp oEq (eComp (fRng1 (aCons (eCall fLen (aCons (eVar 1) aNil)) aNil)) (.nm 2) (tsNot (tsE (eCall R (aCons (eOp oIx (eVar 0) (eVar 2)) (aCons (eOp oIx (eVar 1) (eVar 2)) aNil))))) (eVar 2) [2]) (eLst aNil) [some (.tup l), some (.tup l), none, none] c = .ok (.bl true) c := by
  have ec := alike_comp (R := R) (d := .tup l) (l := l) (c := c) (a3 := none) rfl (fun x q => by cases q) h1 ih
  rw [eOp, ec, Res.bind_ok, eLst_nil, Res.bind_ok, eq_nil]
theorem tup_el {c : Cs} {l : List D} : eOp oNe (eCall fLen (aCons (eVar 0) aNil)) (eCall fLen (aCons (eVar 1) aNil)) [some (.tup l), some (.tup l), none, none] c = .ok (.bl false) c := by
  have : eOp oNe (eCall fLen (aCons (eVar 0) aNil)) (eCall fLen (aCons (eVar 1) aNil)) [some (.tup l), some (.tup l), none, none] c = oNe (.int (l.length : Int)) (.int (l.length : Int)) c := by
    simp only [eOp, eCall, aCons, aNil, eVar, List.getElem?_cons_zero, List.getElem?_cons_succ, Res.bind_ok, fLen, seqOf]
  rw [this, ne_int]
  simp
theorem tup_e0 {c : Cs} {l : List D} {T : List String} {b : Bool} (hT : kitBs "tuple" T = some b) : eIsi (eVar 0) T [some (.tup l), some (.tup l), none, none] c = .ok (.bl b) c := by
  simp only [eIsi, eVar, List.getElem?_cons_zero, List.getElem?_cons_succ, Res.bind_ok, isiD, tyName, Option.bind_some, hT]
theorem tup_e1 {c : Cs} {l : List D} {T : List String} {b : Bool} (hT : kitBs "tuple" T = some b) : eIsi (eVar 1) T [some (.tup l), some (.tup l), none, none] c = .ok (.bl b) c := by
  simp only [eIsi, eVar, List.getElem?_cons_zero, List.getElem?_cons_succ, Res.bind_ok, isiD, tyName, Option.bind_some, hT]
theorem tup_e5 {c : Cs} {l : List D} : eOp oNe (eIsi (eVar 0) ["list"]) (eIsi (eVar 1) ["list"]) [some (.tup l), some (.tup l), none, none] c = .ok (.bl false) c := by
  rw [eOp, tup_e0 kt_tuple_list, Res.bind_ok, tup_e1 kt_tuple_list, Res.bind_ok, ne_bl]
  simp
theorem lst_er {R : FN} {c : Cs} {l : List D} (h1 : l.length ≤ 100000) (ih : ∀ x ∈ l, R [x, x] c = .ok (.bl true) c) : eOp oEq (eComp (fRng1 (aCons (eCall fLen (aCons (eVar 1) aNil)) aNil)) (.nm 2) (tsNot (tsE (eCall R (aCons (eOp oIx (eVar 0) (eVar 2)) (aCons (eOp oIx (eVar 1) (eVar 2)) aNil))))) (eVar 2) [2]) (eLst aNil) [some (.lst l), some (.lst l), none, none] c = .ok (.bl true) c := by
  have ec := alike_comp (R := R) (d := .lst l) (l := l) (c := c) (a3 := none) rfl (fun x q => by cases q) h1 ih
  rw [eOp, ec, Res.bind_ok, eLst_nil, Res.bind_ok, eq_nil]
theorem lst_el {c : Cs} {l : List D} : eOp oNe (eCall fLen (aCons (eVar 0) aNil)) (eCall fLen (aCons (eVar 1) aNil)) [some (.lst l), some (.lst l), none, none] c = .ok (.bl false) c := by
  have : eOp oNe (eCall fLen (aCons (eVar 0) aNil)) (eCall fLen (aCons (eVar 1) aNil)) [some (.lst l), some (.lst l), none, none] c = oNe (.int (l.length : Int)) (.int (l.length : Int)) c := by
    simp only [eOp, eCall, aCons, aNil, eVar, List.getElem?_cons_zero, List.getElem?_cons_succ, Res.bind_ok, fLen, seqOf]
  rw [this, ne_int]
  simp
theorem lst_e0 {c : Cs} {l : List D} {T : List String} {b : Bool} (hT : kitBs "list" T = some b) : eIsi (eVar 0) T [some (.lst l), some (.lst l), none, none] c = .ok (.bl b) c := by
  simp only [eIsi, eVar, List.getElem?_cons_zero, List.getElem?_cons_succ, Res.bind_ok, isiD, tyName, Option.bind_some, hT]
theorem lst_e1 {c : Cs} {l : List D} {T : List String} {b : Bool} (hT : kitBs "list" T = some b) : eIsi (eVar 1) T [some (.lst l), some (.lst l), none, none] c = .ok (.bl b) c := by
  simp only [eIsi, eVar, List.getElem?_cons_zero, List.getElem?_cons_succ, Res.bind_ok, isiD, tyName, Option.bind_some, hT]
theorem lst_e5 {c : Cs} {l : List D} : eOp oNe (eIsi (eVar 0) ["list"]) (eIsi (eVar 1) ["list"]) [some (.lst l), some (.lst l), none, none] c = .ok (.bl false) c := by
  rw [eOp, lst_e0 kt_list_list, Res.bind_ok, lst_e1 kt_list_list, Res.bind_ok, ne_bl]
  simp
theorem Pl.nats {n : Nat} {l : List Nat} (h : l.length ≤ 100000) : Pl (n + 2) (.tup (nats l)) := .tup (by rw [nats_len]; exact h) fun x hx => by
  obtain ⟨k, _, rfl⟩ := List.mem_map.mp hx
  exact .int
theorem Pl.dat {n : Nat} {y : Ky} (h : y.Ok) : Pl (n + 1) y.dat := by
  cases y with
  | num k => exact .int
  | wrd w => exact .str (strOk_w (Wd.al h))
theorem sSeq_err {f g : FS} {s s1 : Sl} {c c1 : Cs} {x : Exc} (h : f s c = .err x s1 c1) : sSeq f g s c = .err x s1 c1 := by
  unfold sSeq; rw [h]; rfl
theorem sDrop_ok {f : FE} {s : Sl} {c c1 : Cs} {d : D} (h : f s c = .ok d c1) : sDrop f s c = .nx s c1 := by
  unfold sDrop; rw [h]; rfl
theorem sDrop_err {f : FE} {s : Sl} {c c1 : Cs} {x : Exc} (h : f s c = .err x c1) : sDrop f s c = .err x s c1 := by
  unfold sDrop; rw [h]; rfl
theorem sAsg_nm {f : FE} {i : Nat} {s : Sl} {c c1 : Cs} {d : D} (h : f s c = .ok d c1) : sAsg f (gtName i) s c = .nx (s.set i (some d)) c1 := by
  unfold sAsg; rw [h]; rfl
theorem sFor_ok {f : FA} {g : FG} {b : FS} {s : Sl} {c c1 : Cs} {ds : List D} (h : f s c = .ok ds c1) : sFor f g b s c = loopL g b ds s c1 := by
  unfold sFor; rw [h]; rfl
theorem loopL_nx {g : FG} {b : FS} {d : D} {ds : List D} {s s1 s2 : Sl} {c c1 c2 : Cs} (h1 : g d s c = .nx s1 c1) (h2 : b s1 c1 = .nx s2 c2) : loopL g b (d :: ds) s c = loopL g b ds s2 c2 := by
  simp only [loopL, h1, SR.bind, h2]
theorem rngC_succ {lo st : Int} {n : Nat} : rngC lo st (n + 1) = .int lo :: rngC (lo + st) st n := by
  simp only [rngC, List.range_succ_eq_map, List.map_cons, List.map_map]
  congr 1
  · simp
  · refine List.map_congr_left fun k _ => ?_
    simp only [Function.comp_def, Nat.succ_eq_add_one, D.int.injEq]
    push_cast
    rw [Int.add_mul, Int.one_mul, Int.add_assoc, Int.add_comm st]
theorem bts_app (w : Nat) (a b : List Nat) : bts w (a ++ b) = bts w a ++ bts w b := by simp [bts]
theorem mkF_2 {m : Nat} {b : FS} {d e : D} {c : Cs} : mkF 2 m b [d, e] c = fin (b (startD 2 m [d, e]) c) := if_pos rfl
theorem eAnd_f {f g : FE} {s : Sl} {c c1 : Cs} (h : f s c = .ok (.bl false) c1) : eAnd f g s c = .ok (.bl false) c1 := by
  unfold eAnd; rw [h]; rfl
theorem eAnd_t {f g : FE} {s : Sl} {c c1 : Cs} (h : f s c = .ok (.bl true) c1) : eAnd f g s c = g s c1 := by
  unfold eAnd; rw [h]; rfl
theorem eNot_b {f : FE} {s : Sl} {c c1 : Cs} {b : Bool} (h : f s c = .ok (.bl b) c1) : eNot f s c = .ok (.bl (!b)) c1 := by
  unfold eNot; rw [h]; rfl
theorem bts_lt {w : Nat} {l : List Nat} : ∀ n ∈ bts w l, n < 2 := by
  intro n hn
  simp only [bts, List.mem_flatMap, bitsN, List.mem_map] at hn
  obtain ⟨a, _, b, _, rfl⟩ := hn
  omega
theorem m1_ok {s : Sl} {c : Cs} : pSome (eNeg (eC (.int 1))) s c = .ok (some (-1)) c := by simp [pSome, eNeg, eC]
theorem none_ok {s : Sl} {c : Cs} : pNone s c = .ok none c := rfl
abbrev badT (nm : Str) : D := .tup [.str "bad", .str nm, .bl true]
theorem Pl.bad {n : Nat} {nm : Str} (h : PyData.strOk nm = true) : Pl (n + 2) (badT nm) := .tup (by show 3 ≤ 100000; decide) fun x hx => by
  simp at hx
  rcases hx with rfl | rfl | rfl
  · exact .str (by decide +kernel)
  · exact .str h
  · exact .bl
theorem eLst4 {f1 f2 f3 f4 : FE} {d1 d2 d3 d4 : D} {s : Sl} {c : Cs} (h1 : f1 s c = .ok d1 c) (h2 : f2 s c = .ok d2 c) (h3 : f3 s c = .ok d3 c) (h4 : f4 s c = .ok d4 c) : eLst (aCons f1 (aCons f2 (aCons f3 (aCons f4 aNil)))) s c = .ok (.lst [d1, d2, d3, d4]) c := by
  simp [eLst, aCons, aNil, h1, h2, h3, h4]
theorem bad_tup {nm : Str} {s : Sl} {c : Cs} : eTup (aCons (eC (.str "bad")) (aCons (eC (.str nm)) (aCons (eC (.bl true)) aNil))) s c = .ok (badT nm) c := by
  simp [eTup, aCons, aNil, eC]
theorem mkF_4 {m : Nat} {b : FS} {d1 d2 d3 d4 : D} {c : Cs} : mkF 4 m b [d1, d2, d3, d4] c = fin (b (startD 4 m [d1, d2, d3, d4]) c) := if_pos rfl
theorem sPar_ok {i j : Nat} {f : FA} {s : Sl} {c c1 : Cs} {d e : D} (h : f s c = .ok [d, e] c1) : sPar i j f s c = .nx ((s.set i (some d)).set j (some e)) c1 := by
  unfold sPar; rw [h]; rfl
theorem eLst2 {f1 f2 : FE} {d1 d2 : D} {s : Sl} {c c1 c2 : Cs} (h1 : f1 s c = .ok d1 c1) (h2 : f2 s c1 = .ok d2 c2) : eLst (aCons f1 (aCons f2 aNil)) s c = .ok (.lst [d1, d2]) c2 := by
  simp [eLst, aCons, aNil, h1, h2]
theorem eTup2 {f1 f2 : FE} {d1 d2 : D} {s : Sl} {c c1 c2 : Cs} (h1 : f1 s c = .ok d1 c1) (h2 : f2 s c1 = .ok d2 c2) : eTup (aCons f1 (aCons f2 aNil)) s c = .ok (.tup [d1, d2]) c2 := by
  simp [eTup, aCons, aNil, h1, h2]
theorem aCons2 {f1 f2 : FE} {d1 d2 : D} {s : Sl} {c c1 c2 : Cs} (h1 : f1 s c = .ok d1 c1) (h2 : f2 s c1 = .ok d2 c2) : aCons f1 (aCons f2 aNil) s c = .ok [d1, d2] c2 := by
  simp [aCons, aNil, h1, h2]
theorem mkF_1 {m : Nat} {b : FS} {d1 : D} {c : Cs} : mkF 1 m b [d1] c = fin (b (startD 1 m [d1]) c) := if_pos rfl
abbrev badD (K : PySem.W.Frag) (nm : Str) : Exc := ⟨He.ga K "BadArgument", [("name", .str nm)]⟩
theorem lam_badG {T : Addr} {q : Str} {n : Nat} {CR : Addr} {f : FE} {s : Sl} {c c1 : Cs} {nm : Str} (ht : hasTab c n T q = true) (h : f s c = .err (badD K nm) c1) : eLam n T q (He.ga K "BadArgument") CR f s c = .ok (badT nm) c1 := by
  unfold eLam
  rw [if_pos ht, h]
  simp [heardR]
theorem hasTab_app {c x : Cs} {n : Nat} {P : Addr} {q : Str} (h : hasTab c n P q = true) : hasTab (c ++ x) n P q = true := by
  have e := hasTab_at h
  unfold hasTab
  rw [List.getElem?_append_left (List.getElem?_eq_some_iff.mp e).1, e]
  simp
end RL

set_option Elab.async false
set_option linter.all false
set_option maxRecDepth 100000
set_option maxHeartbeats 4000000
/-! ## small steps, put together by hand -/
namespace RL
open PySem PySem.Spec PyProof.Rows L2
variable {s s1 : Sl} {c c1 c2 c3 : Cs} {f g a b : FE} {fa : FA} {d e : D} {ds : List D}
theorem aNil_ok : aNil s c = .ok [] c := rfl
theorem aCons_ok (h1 : f s c = .ok d c1) (h2 : fa s c1 = .ok ds c2) : aCons f fa s c = .ok (d :: ds) c2 := by
  simp only [aCons, h1, h2, Res.bind_ok]
theorem aOne (h1 : f s c = .ok d c1) : aCons f aNil s c = .ok [d] c1 := aCons_ok h1 aNil_ok
theorem aCons_err {x : Exc} (h1 : f s c = .err x c1) : aCons f fa s c = .err x c1 := by
  simp only [aCons, h1, Res.bind_err]
theorem eTup_ok (h : fa s c = .ok ds c1) (hl : ds.length ≤ 100000) : eTup fa s c = .ok (.tup ds) c1 := by
  simp only [eTup, h, Res.bind_ok, if_pos hl]
theorem eLst_ok (h : fa s c = .ok ds c1) (hl : ds.length ≤ 100000) : eLst fa s c = .ok (.lst ds) c1 := by
  simp only [eLst, h, Res.bind_ok, if_pos hl]
theorem eOp_ok {fo : D → D → Cs → Res D} {z : Res D} (h1 : a s c = .ok d c1) (h2 : b s c1 = .ok e c2) (h3 : fo d e c2 = z) : eOp fo a b s c = z := by
  simp only [eOp, h1, h2, Res.bind_ok, h3]
theorem eCall_ok {F : FN} {z : Res D} (h : fa s c = .ok ds c1) (h2 : F ds c1 = z) : eCall F fa s c = z := by
  simp only [eCall, h, Res.bind_ok, h2]
theorem eVar_ok {i : Nat} (h : s[i]? = some (some d)) : eVar i s c = .ok d c := by
  simp only [eVar, h]
theorem eC_ok : eC d s c = .ok d c := rfl
theorem tsE_ok {q : Bool} (h : f s c = .ok (.bl q) c1) : tsE f s c = .ok q c1 := by
  simp only [tsE, h, Res.bind_ok]
theorem eOr_t (h : f s c = .ok (.bl true) c1) : eOr f g s c = .ok (.bl true) c1 := by
  simp only [eOr, h, Res.bind_ok, if_true]
theorem eOr_f (h : f s c = .ok (.bl false) c1) : eOr f g s c = g s c1 := by
  simp only [eOr, h, Res.bind_ok]; rfl
theorem sRet_err {x : Exc} (h : f s c = .err x c1) : sRet f s c = .err x s c1 := by
  unfold sRet; rw [h]; rfl
theorem mkF_3 {m : Nat} {b : FS} {d1 d2 d3 : D} {c : Cs} : mkF 3 m b [d1, d2, d3] c = fin (b (startD 3 m [d1, d2, d3]) c) := if_pos rfl
theorem mkF_5 {m : Nat} {b : FS} {d1 d2 d3 d4 d5 : D} {c : Cs} : mkF 5 m b [d1, d2, d3, d4, d5] c = fin (b (startD 5 m [d1, d2, d3, d4, d5]) c) := if_pos rfl
theorem eQ_all {n : Nat} {P : Addr} {qn : Str} {src : FA} {j : Nat} {vs : List Nat} {q : D → Bool} (hs : src s c = .ok ds c1) (ht : hasTab c1 n P qn = true) (h : ∀ d ∈ ds, f ((wipeD s vs).set j (some d)) c1 = .ok (.bl (q d)) c1) :
    eQ false n P qn src (.nm j) f vs s c = .ok (.bl (ds.all q)) c1 := by
  simp only [eQ, hs, Res.bind_ok, ht, if_true, qL_all h]
/-! comprehensions over pairs -/
theorem compL_mapT {tg : Tg} {s0 : Sl} {G : D → D} : ∀ {ds acc : List D}, acc.length + ds.length ≤ 100000 → (∀ d ∈ ds, ∃ s1, tg.set d s0 = some s1 ∧ f s1 c = .ok (G d) c) → compL tg (fun _ c => .ok true c) f s0 ds acc c = .ok (acc ++ ds.map G) c
  | [], acc, _, _ => by simp [compL]
  | d :: ds, acc, h1, h2 => by
    obtain ⟨s1, e0, e⟩ := h2 d List.mem_cons_self
    have h3 : acc.length < 100000 := by simp at h1; omega
    have ih := compL_mapT (tg := tg) (s0 := s0) (G := G) (ds := ds) (acc := acc ++ [G d]) (by simp at h1 ⊢; omega) (fun x hx => h2 x (List.mem_cons_of_mem _ hx))
    simp [compL, e0, e, h3, ih]
theorem eComp_mapT {src : FA} {tg : Tg} {vs : List Nat} (G : D → D) (hs : src s c = .ok ds c1) (hl : ds.length ≤ 100000) (h : ∀ d ∈ ds, ∃ s1, tg.set d (wipeD s vs) = some s1 ∧ f s1 c1 = .ok (G d) c1) :
    eComp src tg (fun _ c => .ok true c) f vs s c = .ok (.lst (ds.map G)) c1 := by
  have e := compL_mapT (tg := tg) (f := f) (s0 := wipeD s vs) (G := G) (c := c1) (ds := ds) (acc := []) (by simpa using hl) h
  simp only [eComp, hs, Res.bind_ok, e, List.nil_append]
theorem qL_stop {tg : Tg} {s0 : Sl} {d : D} {s1 : Sl} (h0 : tg.set d s0 = some s1) (h : f s1 c = .ok (.bl false) c1) : qL false tg f s0 (d :: ds) c = .ok false c1 := by
  simp [qL, h0, h]
/-! instances -/
theorem sSetF_ok {C : Addr} {x : Str} {fo fv : FE} {v : D} {n : Nat} {fs : List (Str × D)} (hv : fv s c = .ok v c1) (ho : fo s c1 = .ok (.cel n) c2) (hc : c2[n]? = some (.ins C fs)) (hl : fs.length < 1000) : sSetF C x fo fv s c = .nx s (c2.set n (.ins C (putD x v fs))) := by
  simp only [sSetF, hv, ho, Res.toS, insOf, hc, hl, and_self, if_true]
theorem eFld_ok {C : Addr} {x : Str} {n : Nat} {fs : List (Str × D)} {v : D} (h : f s c = .ok (.cel n) c1) (hc : c1[n]? = some (.ins C fs)) (hl : fs.lookup x = some v) : eFld C x f s c = .ok v c1 := by
  simp only [eFld, h, Res.bind_ok, insOf, hc, hl]; simp
theorem eProp_ok {C : Addr} {F : FN} {n : Nat} {fs : List (Str × D)} {v : D} (h : f s c = .ok (.cel n) c1) (hc : c1[n]? = some (.ins C fs)) (hF : F [.cel n] c1 = .ok v c2) : eProp C F f s c = .ok v c2 := by
  simp only [eProp, h, Res.bind_ok, insOf, hc, hF]; simp
theorem eLenO_ok {C : Addr} {F : FN} {n : Nat} {fs : List (Str × D)} {i : Int} (h : f s c = .ok (.cel n) c1) (hc : c1[n]? = some (.ins C fs)) (hF : F [.cel n] c1 = .ok (.int i) c2) (h0 : 0 ≤ i) (h1 : i < 2 ^ 63) : eLenO C F f s c = .ok (.int i) c2 := by
  simp only [eLenO, h, Res.bind_ok, insOf, hc, hF, if_pos (And.intro h0 h1)]; simp
theorem eMake_ok {C : Addr} {F : FN} (h : fa s c = .ok ds c1) (hF : F (.cel c1.length :: ds) (c1 ++ [.ins C []]) = .ok .non c2) : eMake C F fa s c = .ok (.cel c1.length) c2 := by
  simp only [eMake, h, Res.bind_ok, hF]
theorem eMake_err {C : Addr} {F : FN} {x : Exc} (h : fa s c = .ok ds c1) (hF : F (.cel c1.length :: ds) (c1 ++ [.ins C []]) = .err x c2) : eMake C F fa s c = .err x c2 := by
  simp only [eMake, h, Res.bind_ok, hF, Res.bind_err]
theorem eNew_ok (h : fa s c = .ok ds c1) (hl : ds.length ≤ 100000) : eNew fa s c = .ok (.cel c1.length) (c1 ++ [.lst ds]) := by
  simp only [eNew, h, Res.bind_ok, if_pos hl]
theorem mid_get {α : Type} {p q : List α} {x : α} {n : Nat} (h : n = p.length) : (p ++ x :: q)[n]? = some x := by
  subst h; simp
theorem mid_set {α : Type} {p q : List α} {x y : α} {n : Nat} (h : n = p.length) : (p ++ x :: q).set n y = p ++ y :: q := by
  subst h; simp
theorem mkF_1s {m : Nat} {b : FS} {d1 : D} {c : Cs} {s0 : Sl} (hs : startD 1 m [d1] = s0) : mkF 1 m b [d1] c = fin (b s0 c) := by rw [mkF_1, hs]
end RL

set_option Elab.async false
set_option linter.all false
set_option maxRecDepth 100000
set_option maxHeartbeats 4000000
/-! ## the defs of the row: what they are worth, their derivations (printed by wip/gen/gen.py) -/
namespace K02
open PySem PySem.Spec PyProof.Rows L2 RL
def top (i : Nat) : Stmt := PySem.Challenge.pw_keyboughs_k02_whole_ranks.main.body.getD i (.Pass ⟨0, 0, 0, 0⟩)
def tfs : List (He.Defn × Str) := [(("is_word", none), "is_word.<locals>.<genexpr>"), (("are_rising", none), "are_rising.<locals>.<genexpr>"), (("are_keys", none), "are_keys.<locals>.<genexpr>"), (("is_rule", none), "is_rule.<locals>.<genexpr>"), (("_law_refused", none), "_law_refused.<locals>.<lambda>")]
def tb (K : PySem.W.Frag) (i : Nat) : Addr := (He.cT K (tfs.getD i (("", none), "")).1).2
abbrev CB (K : PySem.W.Frag) : Addr := He.ga K "BadArgument"
abbrev CR (K : PySem.W.Frag) : Addr := He.ga K "Refused"
def cm : Stmt → Nat → Stmt
  | .ClassDef _ _ _ body _ _ _ _ _ _ _, j => body.getD j (.Pass ⟨0, 0, 0, 0⟩)
  | s, _ => s
def b_is_number (K : PySem.W.Frag) (w : World) : FS := (sRet (eAnd (eIsi (eVar 0) ["int"]) (eAnd (eNot (eIsi (eVar 0) ["bool"])) (eChain oLe oLe (eVar 1) (eVar 0) (eVar 2)))))
def F_is_number (K : PySem.W.Frag) (w : World) : FN := mkF 3 3 (b_is_number K w)
def b_check (K : PySem.W.Frag) (w : World) : FS := (sIf (tsNot (tsE (eVar 0))) (sRaise (He.ga K "BadArgument") "name" (eVar 1)) sNext)
def F_check (K : PySem.W.Frag) (w : World) : FN := mkF 2 2 (b_check K w)
def b_is_word (K : PySem.W.Frag) (w : World) : FS := (sSeq (sIf (tsOr (tsNot (tsE (eIsi (eVar 0) ["str"]))) (tsNot (tsE (eChain oLe oLe (eC (.int 1)) (eCall fLen (aCons (eVar 0) aNil)) (eC (.int 12)))))) (sRet (eC (.bl false))) sNext)
    (sRet (eQ false 0 (tb K 0) "is_word.<locals>.<genexpr>" (fSeq (eVar 0)) (.nm 1) (eOp oIn (eVar 1) (eC (.str "abcdefghijklmnopqrstuvwxyz"))) [1])))
def F_is_word (K : PySem.W.Frag) (w : World) : FN := mkF 1 2 (b_is_word K w)
def b_is_family (K : PySem.W.Frag) (w : World) : FS := (sRet (eAnd (eIsi (eVar 0) ["str"]) (eOp oIn (eVar 0) (eC (.tup [.str "numbers", .str "words"])))))
def F_is_family (K : PySem.W.Frag) (w : World) : FN := mkF 1 1 (b_is_family K w)
def b_is_key (K : PySem.W.Frag) (w : World) : FS := (sRet (eIf (tsE (eOp oEq (eVar 0) (eC (.str "numbers")))) (eCall (F_is_number K w) (aCons (eVar 1) (aCons (eC (.int 0)) (aCons (eC (.int 65535)) aNil)))) (eCall (F_is_word K w) (aCons (eVar 1) aNil))))
def F_is_key (K : PySem.W.Frag) (w : World) : FN := mkF 2 2 (b_is_key K w)
def b_are_rising (K : PySem.W.Frag) (w : World) : FS := (sRet (eQ false 1 (tb K 1) "are_rising.<locals>.<genexpr>" (fZip (aCons (eVar 0) (aCons (eSl (eVar 0) (pSome (eC (.int 1))) pNone) aNil))) (.tp [1, 2]) (eOp oLt (eVar 1) (eVar 2)) [1, 2]))
def F_are_rising (K : PySem.W.Frag) (w : World) : FN := mkF 1 3 (b_are_rising K w)
def b_are_keys (K : PySem.W.Frag) (w : World) : FS := (sRet (eAnd (eIsi (eVar 1) ["tuple"]) (eQ false 2 (tb K 2) "are_keys.<locals>.<genexpr>" (fSeq (eVar 1)) (.nm 2) (eCall (F_is_key K w) (aCons (eVar 0) (aCons (eVar 2) aNil))) [2])))
def F_are_keys (K : PySem.W.Frag) (w : World) : FN := mkF 2 3 (b_are_keys K w)
def b_row_of (K : PySem.W.Frag) (w : World) : FS := (sSeq (sIf (tsE (eOp oEq (eVar 0) (eC (.str "numbers")))) (sRet (eTupOf (eComp (fRng3 (aCons (eOp oSub (eC (.int 16)) (eC (.int 4))) (aCons (eNeg (eC (.int 1))) (aCons (eNeg (eC (.int 4))) aNil)))) (.nm 2) (fun _ c => .ok true c) (eOp oAnd (eOp oShr (eVar 1) (eVar 2)) (eC (.int 15))) [2]))) sNext)
    (sRet (eTupOf (eOp oAdd (eComp (fSeq (eVar 1)) (.nm 3) (fun _ c => .ok true c) (eOp oAdd (eIdx (eC (.str "abcdefghijklmnopqrstuvwxyz")) (eVar 3)) (eC (.int 1))) [3]) (eLst (aCons (eC (.int 0)) aNil))))))
def F_row_of (K : PySem.W.Frag) (w : World) : FN := mkF 2 4 (b_row_of K w)
def b_is_rule (K : PySem.W.Frag) (w : World) : FS := (sSeq (sIf (tsOr (tsNot (tsE (eIsi (eVar 0) ["tuple"]))) (tsOr (tsE (eOp oEq (eCall fLen (aCons (eVar 0) aNil)) (eC (.int 0)))) (tsNot (tsE (eIsi (eOp oIx (eVar 0) (eC (.int 0))) ["str"]))))) (sRet (eC (.bl false))) sNext)
    (sSeq (sIf (tsE (eOp oIn (eOp oIx (eVar 0) (eC (.int 0))) (eC (.tup [.str "come", .str "levels", .str "bits", .str "starts"])))) (sRet (eOp oEq (eCall fLen (aCons (eVar 0) aNil)) (eC (.int 1)))) sNext)
    (sSeq (sIf (tsE (eOp oEq (eOp oIx (eVar 0) (eC (.int 0))) (eC (.str "pages")))) (sRet (eAnd (eOp oEq (eCall fLen (aCons (eVar 0) aNil)) (eC (.int 2))) (eCall (F_is_number K w) (aCons (eOp oIx (eVar 0) (eC (.int 1))) (aCons (eC (.int 1)) (aCons (eC (.int 4)) aNil)))))) sNext)
    (sSeq (sIf (tsOr (tsE (eOp oNe (eOp oIx (eVar 0) (eC (.int 0))) (eC (.str "ranks")))) (tsOr (tsE (eOp oNe (eCall fLen (aCons (eVar 0) aNil)) (eC (.int 3)))) (tsOr (tsNot (tsE (eIsi (eOp oIx (eVar 0) (eC (.int 2))) ["str"]))) (tsE (eOp oNotIn (eOp oIx (eVar 0) (eC (.int 2))) (eTup (aCons (eC (.str "key")) (aCons (eC (.str "came")) aNil)))))))) (sRet (eC (.bl false))) sNext)
    (sSeq (sAsg (eOp oIx (eVar 0) (eC (.int 1))) (gtName 1))
    (sSeq (sIf (tsOr (tsNot (tsE (eIsi (eVar 1) ["tuple"]))) (tsNot (tsE (eChain oLe oLe (eC (.int 1)) (eCall fLen (aCons (eVar 1) aNil)) (eC (.int 12)))))) (sRet (eC (.bl false))) sNext)
    (sRet (eQ false 3 (tb K 3) "is_rule.<locals>.<genexpr>" (fSeq (eVar 1)) (.nm 2) (eCall (F_is_number K w) (aCons (eVar 2) (aCons (eC (.int 0)) (aCons (eC (.int 99)) aNil)))) [2]))))))))
def F_is_rule (K : PySem.W.Frag) (w : World) : FN := mkF 1 3 (b_is_rule K w)
def b_rank_in (K : PySem.W.Frag) (w : World) : FS := (sSeq (sAsg (eCall fSum (aCons (eComp (fEnum (aCons (eCall (F_row_of K w) (aCons (eVar 1) (aCons (eVar 2) aNil))) aNil)) (.tp [4, 5]) (fun _ c => .ok true c) (eOp oMulB (eVar 5) (eOp oAdd (eVar 4) (eC (.int 1)))) [4, 5]) aNil)) (gtName 3))
    (sRet (eOp oIx (eOp oIx (eVar 0) (eC (.int 1))) (eOp oMod (eVar 3) (eCall fLen (aCons (eOp oIx (eVar 0) (eC (.int 1))) aNil))))))
def F_rank_in (K : PySem.W.Frag) (w : World) : FN := mkF 3 6 (b_rank_in K w)
def b_rank_of (K : PySem.W.Frag) (w : World) : FS := (sSeq (sDrop (eCall (F_check K w) (aCons (eAnd (eCall (F_is_rule K w) (aCons (eVar 0) aNil)) (eOp oEq (eOp oIx (eVar 0) (eC (.int 0))) (eC (.str "ranks")))) (aCons (eC (.str "rule")) aNil))))
    (sSeq (sDrop (eCall (F_check K w) (aCons (eCall (F_is_family K w) (aCons (eVar 1) aNil)) (aCons (eC (.str "family")) aNil))))
    (sSeq (sDrop (eCall (F_check K w) (aCons (eCall (F_are_keys K w) (aCons (eVar 1) (aCons (eTup (aCons (eVar 2) aNil)) aNil))) (aCons (eC (.str "key")) aNil))))
    (sRet (eCall (F_rank_in K w) (aCons (eVar 0) (aCons (eVar 1) (aCons (eVar 2) aNil))))))))
def F_rank_of (K : PySem.W.Frag) (w : World) : FN := mkF 3 3 (b_rank_of K w)
def b_check_all (K : PySem.W.Frag) (w : World) : FS := (sSeq (sDrop (eCall (F_check K w) (aCons (eCall (F_is_rule K w) (aCons (eVar 0) aNil)) (aCons (eC (.str "rule")) aNil))))
    (sSeq (sDrop (eCall (F_check K w) (aCons (eCall (F_is_family K w) (aCons (eVar 1) aNil)) (aCons (eC (.str "family")) aNil))))
    (sDrop (eCall (F_check K w) (aCons (eAnd (eCall (F_are_keys K w) (aCons (eVar 1) (aCons (eVar 2) aNil))) (eAnd (eCall (F_are_rising K w) (aCons (eVar 2) aNil)) (eOp oLe (eCall fLen (aCons (eVar 2) aNil)) (eC (.int 300))))) (aCons (eC (.str "keys")) aNil))))))
def F_check_all (K : PySem.W.Frag) (w : World) : FN := mkF 3 3 (b_check_all K w)
def b_one_shape (K : PySem.W.Frag) (w : World) : FS := (sSeq (sDrop (eCall (F_check_all K w) (aCons (eVar 0) (aCons (eVar 1) (aCons (eVar 2) aNil)))))
    (sRet (fun _ _ => .bad)))
def F_one_shape (K : PySem.W.Frag) (w : World) : FN := mkF 3 3 (b_one_shape K w)
def b_always_one (K : PySem.W.Frag) (w : World) : FS := (sSeq (sDrop (eCall (F_check K w) (aCons (eCall (F_is_rule K w) (aCons (eVar 0) aNil)) (aCons (eC (.str "rule")) aNil))))
    (sRet (eOr (eOp oIn (eOp oIx (eVar 0) (eC (.int 0))) (eTup (aCons (eC (.str "bits")) (aCons (eC (.str "starts")) aNil)))) (eAnd (eOp oEq (eOp oIx (eVar 0) (eC (.int 0))) (eC (.str "ranks"))) (eOp oEq (eOp oIx (eVar 0) (eC (.int 2))) (eC (.str "key")))))))
def F_always_one (K : PySem.W.Frag) (w : World) : FN := mkF 1 1 (b_always_one K w)
def b__law_taken (K : PySem.W.Frag) (w : World) : FS := (sSeq (sIf (tsE (eOp oGt (eOp oIx (eVar 0) (eC (.int 3))) (eC (.int 0)))) (sSeq (sAsg (eOp oMod (eCall fInt (aCons (eOp oIx (eVar 0) (eC (.int 3))) aNil)) (eVar 1)) (gtName 3))
    (sSeq (sAsg (eOp oDiv (eOp oIx (eVar 0) (eC (.int 3))) (eVar 1)) (gtSub (eVar 0) (eC (.int 3))))
    (sRet (eVar 3)))) sNext)
    (sSeq (sAsg (eOp oAdd (eOp oIx (eVar 0) (eC (.int 1))) (eC (.int 1))) (gtSub (eVar 0) (eC (.int 1))))
    (sSeq (sIf (tsE (eOp oGt (eOp oIx (eVar 0) (eC (.int 1))) (eCall fLen (aCons (eOp oIx (eVar 0) (eC (.int 0))) aNil)))) (sSeq (sAsg (eOp oMod (eCall fInt (aCons (eOp oAdd (eOp oMulB (eOp oIx (eVar 0) (eC (.int 2))) (eC (.int 48271))) (eC (.int 11))) aNil)) (eC (.int 2147483647))) (gtSub (eVar 0) (eC (.int 2))))
    (sRet (eOp oMod (eCall fInt (aCons (eOp oDiv (eOp oIx (eVar 0) (eC (.int 2))) (eC (.int 7))) aNil)) (eVar 1)))) sNext)
    (sSeq (sAsg (eOp oIx (eOp oIx (eVar 0) (eC (.int 0))) (eOp oSub (eOp oIx (eVar 0) (eC (.int 1))) (eC (.int 1)))) (gtName 2))
    (sSeq (sAsg (eOp oMod (eCall fInt (aCons (eOp oAdd (eOp oAdd (eOp oMulB (eOp oIx (eVar 0) (eC (.int 2))) (eC (.int 48271))) (eVar 2)) (eC (.int 11))) aNil)) (eC (.int 2147483647))) (gtSub (eVar 0) (eC (.int 2))))
    (sSeq (sIf (tsE (eOp oGe (eVar 2) (eOp oPow (eC (.int 10)) (eC (.int 18))))) (sAsg (eOp oDiv (eVar 2) (eVar 1)) (gtSub (eVar 0) (eC (.int 3)))) sNext)
    (sRet (eOp oMod (eCall fInt (aCons (eVar 2) aNil)) (eVar 1)))))))))
def F__law_taken (K : PySem.W.Frag) (w : World) : FN := mkF 2 4 (b__law_taken K w)
def b__law_pick (K : PySem.W.Frag) (w : World) : FS := (sRet (eOp oIx (eVar 1) (eCall (F__law_taken K w) (aCons (eVar 0) (aCons (eCall fLen (aCons (eVar 1) aNil)) aNil)))))
def F__law_pick (K : PySem.W.Frag) (w : World) : FN := mkF 2 2 (b__law_pick K w)
def b__law_family (K : PySem.W.Frag) (w : World) : FS := (sRet (eCall (F__law_pick K w) (aCons (eVar 0) (aCons (eLst (aCons (eC (.str "numbers")) (aCons (eC (.str "words")) aNil))) aNil))))
def F__law_family (K : PySem.W.Frag) (w : World) : FN := mkF 1 1 (b__law_family K w)
def b__law_ranks (K : PySem.W.Frag) (w : World) : FS := (sRet (eTupOf (eComp (fRng1 (aCons (eOp oAdd (eC (.int 1)) (eCall (F__law_taken K w) (aCons (eVar 0) (aCons (eCall (F__law_pick K w) (aCons (eVar 0) (aCons (eLst (aCons (eC (.int 2)) (aCons (eC (.int 6)) (aCons (eC (.int 12)) aNil)))) aNil))) aNil)))) aNil)) (.nm 1) (fun _ c => .ok true c) (eCall (F__law_taken K w) (aCons (eVar 0) (aCons (eCall (F__law_pick K w) (aCons (eVar 0) (aCons (eLst (aCons (eC (.int 2)) (aCons (eC (.int 4)) (aCons (eC (.int 100)) aNil)))) aNil))) aNil))) [1])))
def F__law_ranks (K : PySem.W.Frag) (w : World) : FN := mkF 1 2 (b__law_ranks K w)
def b__law_rule (K : PySem.W.Frag) (w : World) : FS := (sSeq (sAsg (eCall (F__law_taken K w) (aCons (eVar 0) (aCons (eC (.int 7)) aNil))) (gtName 1))
    (sSeq (sIf (tsE (eOp oLt (eVar 1) (eC (.int 2)))) (sRet (eTup (aCons (eC (.str "ranks")) (aCons (eCall (F__law_ranks K w) (aCons (eVar 0) aNil)) (aCons (eOp oIx (eTup (aCons (eC (.str "key")) (aCons (eC (.str "came")) aNil))) (eVar 1)) aNil))))) sNext)
    (sSeq (sIf (tsE (eOp oEq (eVar 1) (eC (.int 2)))) (sRet (eTup (aCons (eC (.str "pages")) (aCons (eOp oAdd (eC (.int 1)) (eCall (F__law_taken K w) (aCons (eVar 0) (aCons (eC (.int 4)) aNil)))) aNil)))) sNext)
    (sRet (eTup (aCons (eOp oIx (eTup (aCons (eC (.str "come")) (aCons (eC (.str "levels")) (aCons (eC (.str "bits")) (aCons (eC (.str "starts")) aNil))))) (eOp oSub (eVar 1) (eC (.int 3)))) aNil))))))
def F__law_rule (K : PySem.W.Frag) (w : World) : FN := mkF 1 2 (b__law_rule K w)
def b__law_word (K : PySem.W.Frag) (w : World) : FS := (sSeq (sAsg (eCall (F__law_pick K w) (aCons (eVar 0) (aCons (eLst (aCons (eC (.str "a")) (aCons (eC (.str "ab")) (aCons (eC (.str "ab")) (aCons (eC (.str "abc")) (aCons (eC (.str "aqz")) (aCons (eC (.str "abcdefghijklmnopqrstuvwxyz")) aNil))))))) aNil))) (gtName 1))
    (sSeq (sAsg (eOp oAdd (eC (.int 1)) (eCall (F__law_taken K w) (aCons (eVar 0) (aCons (eCall (F__law_pick K w) (aCons (eVar 0) (aCons (eLst (aCons (eC (.int 1)) (aCons (eC (.int 3)) (aCons (eC (.int 4)) (aCons (eC (.int 12)) aNil))))) aNil))) aNil)))) (gtName 2))
    (sRet (eJoin (eC (.str "")) (eComp (fRng1 (aCons (eVar 2) aNil)) (.nm 3) (fun _ c => .ok true c) (eCall (F__law_pick K w) (aCons (eVar 0) (aCons (eVar 1) aNil))) [3])))))
def F__law_word (K : PySem.W.Frag) (w : World) : FN := mkF 1 4 (b__law_word K w)
def b__law_key (K : PySem.W.Frag) (w : World) : FS := (sSeq (sIf (tsE (eOp oEq (eVar 1) (eC (.str "words")))) (sRet (eCall (F__law_word K w) (aCons (eVar 0) aNil))) sNext)
    (sSeq (sAsg (eCall (F__law_pick K w) (aCons (eVar 0) (aCons (eLst (aCons (eC (.int 8)) (aCons (eC (.int 20)) (aCons (eC (.int 300)) (aCons (eC (.int 65536)) aNil))))) aNil))) (gtName 2))
    (sRet (eOp oMod (eOp oMulB (eCall (F__law_taken K w) (aCons (eVar 0) (aCons (eVar 2) aNil))) (eCall (F__law_pick K w) (aCons (eVar 0) (aCons (eLst (aCons (eC (.int 1)) (aCons (eC (.int 1)) (aCons (eC (.int 16)) (aCons (eC (.int 257)) aNil))))) aNil)))) (eC (.int 65536))))))
def F__law_key (K : PySem.W.Frag) (w : World) : FN := mkF 2 3 (b__law_key K w)
def b__law_alike (K : PySem.W.Frag) (w : World) (R : FN) : FS := (sSeq (sIf (tsE (eIsi (eVar 1) ["tuple", "list"])) (sSeq (sIf (tsOr (tsNot (tsE (eIsi (eVar 0) ["tuple", "list"]))) (tsE (eOp oNe (eIsi (eVar 0) ["list"]) (eIsi (eVar 1) ["list"])))) (sRet (eC (.bl false))) sNext)
    (sSeq (sIf (tsE (eOp oNe (eCall fLen (aCons (eVar 0) aNil)) (eCall fLen (aCons (eVar 1) aNil)))) (sRet (eC (.bl false))) sNext)
    (sRet (eOp oEq (eComp (fRng1 (aCons (eCall fLen (aCons (eVar 1) aNil)) aNil)) (.nm 2) (tsNot (tsE (eCall R (aCons (eOp oIx (eVar 0) (eVar 2)) (aCons (eOp oIx (eVar 1) (eVar 2)) aNil))))) (eVar 2) [2]) (eLst aNil))))) sNext)
    (sSeq (sIf (tsE (eIsi (eVar 1) ["dict"])) (fun _ _ => .bad) sNext)
    (sSeq (sIf (tsOr (tsE (eOp oIsN (eVar 1) (eC .non))) (tsE (eIsi (eVar 1) ["str"]))) (sRet (eAnd (eOp oEq (eVar 0) (eVar 1)) (eOp oEq (eIsi (eVar 0) ["str"]) (eIsi (eVar 1) ["str"])))) sNext)
    (sRet (eAnd (eIsi (eVar 0) ["int"]) (eAnd (eOp oEq (eIsi (eVar 0) ["bool"]) (eIsi (eVar 1) ["bool"])) (eOp oEq (eVar 0) (eVar 1))))))))
def F__law_alike (K : PySem.W.Frag) (w : World) : Nat → FN
  | 0 => fun _ _ => .bad
  | n + 1 => mkF 2 4 (b__law_alike K w (F__law_alike K w n))
def b__law_letters (K : PySem.W.Frag) (w : World) : FS := (sSeq (sIf (tsE (eOp oEq (eVar 0) (eC (.str "numbers")))) (sRet (eTupOf (eComp (fSeq (eTup (aCons (eC (.int 4096)) (aCons (eC (.int 256)) (aCons (eC (.int 16)) (aCons (eC (.int 1)) aNil)))))) (.nm 2) (fun _ c => .ok true c) (eOp oMod (eOp oDiv (eVar 1) (eVar 2)) (eC (.int 16))) [2]))) sNext)
    (sRet (eOp oAdd (eTupOf (eComp (fSeq (eVar 1)) (.nm 3) (fun _ c => .ok true c) (eOp oAdd (eIdx (eC (.str "abcdefghijklmnopqrstuvwxyz")) (eVar 3)) (eC (.int 1))) [3])) (eTup (aCons (eC (.int 0)) aNil)))))
def F__law_letters (K : PySem.W.Frag) (w : World) : FN := mkF 2 4 (b__law_letters K w)
def b__law_rank (K : PySem.W.Frag) (w : World) : FS := (sSeq (sAsg (eCall (F__law_letters K w) (aCons (eVar 1) (aCons (eVar 2) aNil))) (gtName 3))
    (sSeq (sAsg (eC (.int 0)) (gtName 4))
    (sSeq (sFor (fRng1 (aCons (eCall fLen (aCons (eVar 3) aNil)) aNil)) (gtName 5) (sAsg (eOp oAdd (eVar 4) (eOp oMulB (eOp oIx (eVar 3) (eVar 5)) (eOp oAdd (eVar 5) (eC (.int 1))))) (gtName 4)))
    (sRet (eOp oIx (eOp oIx (eVar 0) (eC (.int 1))) (eOp oMod (eVar 4) (eCall fLen (aCons (eOp oIx (eVar 0) (eC (.int 1))) aNil))))))))
def F__law_rank (K : PySem.W.Frag) (w : World) : FN := mkF 3 6 (b__law_rank K w)
def b__law_no_rule (K : PySem.W.Frag) (w : World) : FS := (sSeq (sAsg (eLst (aCons (eC .non) (aCons (eTup aNil) (aCons (eC (.str "come")) (aCons (eLst (aCons (eC (.str "come")) aNil)) (aCons (eTup (aCons (eC (.str "come")) (aCons (eC (.int 1)) aNil))) (aCons (eTup (aCons (eC (.str "levels")) (aCons (eTup aNil) aNil))) (aCons (eTup (aCons (eC (.str "pages")) aNil)) (aCons (eTup (aCons (eC (.str "pages")) (aCons (eC (.int 0)) aNil))) (aCons (eTup (aCons (eC (.str "pages")) (aCons (eC (.int 5)) aNil))) (aCons (eTup (aCons (eC (.str "pages")) (aCons (eC (.bl true)) aNil))) (aCons (eTup (aCons (eC (.str "ranks")) aNil)) (aCons (eTup (aCons (eC (.int 0)) aNil)) aNil))))))))))))) (gtName 1))
    (sSeq (sAsg (eOp oAdd (eVar 1) (eLst (aCons (eTup (aCons (eC (.str "ranks")) (aCons (eTup aNil) (aCons (eC (.str "key")) aNil)))) (aCons (eTup (aCons (eC (.str "ranks")) (aCons (eOp oMulB (eTup (aCons (eC (.int 1)) aNil)) (eC (.int 13))) (aCons (eC (.str "key")) aNil)))) (aCons (eTup (aCons (eC (.str "ranks")) (aCons (eTup (aCons (eC (.int 100)) aNil)) (aCons (eC (.str "came")) aNil)))) (aCons (eTup (aCons (eC (.str "ranks")) (aCons (eTup (aCons (eNeg (eC (.int 1))) aNil)) (aCons (eC (.str "key")) aNil)))) (aCons (eTup (aCons (eC (.str "ranks")) (aCons (eLst (aCons (eC (.int 1)) aNil)) (aCons (eC (.str "key")) aNil)))) aNil))))))) (gtName 1))
    (sRet (eCall (F__law_pick K w) (aCons (eVar 0) (aCons (eOp oAdd (eVar 1) (eLst (aCons (eTup (aCons (eC (.str "ranks")) (aCons (eTup (aCons (eC (.int 1)) aNil)) (aCons (eC (.str "keys")) aNil)))) (aCons (eTup (aCons (eC (.str "ranks")) (aCons (eTup (aCons (eC (.int 1)) aNil)) (aCons (eC (.str "key")) (aCons (eC (.int 0)) aNil))))) (aCons (eTup (aCons (eC (.str "ranks")) (aCons (eTup (aCons (eC (.bl true)) aNil)) (aCons (eC (.str "key")) aNil)))) (aCons (eTup (aCons (eC (.str "ranks")) (aCons (eTup (aCons (eC (.int 1)) aNil)) (aCons (eC .non) aNil)))) aNil)))))) aNil))))))
def F__law_no_rule (K : PySem.W.Frag) (w : World) : FN := mkF 1 2 (b__law_no_rule K w)
def b_Grove___init__ (K : PySem.W.Frag) (w : World) : FS := (sSeq (sDrop (eCall (F_check K w) (aCons (eCall (F_is_rule K w) (aCons (eVar 1) aNil)) (aCons (eC (.str "rule")) aNil))))
    (sSeq (sDrop (eCall (F_check K w) (aCons (eCall (F_is_family K w) (aCons (eVar 2) aNil)) (aCons (eC (.str "family")) aNil))))
    (sSeq (sSetF (He.ga K "Grove") "_rule" (eVar 0) (eVar 1))
    (sSeq (sSetF (He.ga K "Grove") "_family" (eVar 0) (eVar 2))
    (sSeq (sSetF (He.ga K "Grove") "_nodes" (eVar 0) (eNew aNil))
    (sSeq (sSetF (He.ga K "Grove") "_numbers" (eVar 0) (eDic w))
    (sSeq (sSetF (He.ga K "Grove") "_many" (eVar 0) (eNew aNil))
    (sSetF (He.ga K "Grove") "_heights" (eVar 0) (eNew aNil)))))))))
def F_Grove___init__ (K : PySem.W.Frag) (w : World) : FN := mkF 3 3 (b_Grove___init__ K w)
def b__law_refused (K : PySem.W.Frag) (w : World) : FS := (sSeq (sAsg (eCall (F__law_no_rule K w) (aCons (eVar 0) aNil)) (gtName 5))
    (sSeq (sAsg (eLst (aCons (eLam 4 (tb K 4) "_law_refused.<locals>.<lambda>" (CB K) (CR K) (eCall (F_rank_of K w) (aCons (eVar 5) (aCons (eC .non) (aCons (eC .non) aNil))))) (aCons (eLam 4 (tb K 4) "_law_refused.<locals>.<lambda>" (CB K) (CR K) (eCall (F_always_one K w) (aCons (eVar 5) aNil))) (aCons (eLam 4 (tb K 4) "_law_refused.<locals>.<lambda>" (CB K) (CR K) (eCall (F_one_shape K w) (aCons (eVar 5) (aCons (eC .non) (aCons (eC .non) aNil))))) (aCons (eLam 4 (tb K 4) "_law_refused.<locals>.<lambda>" (CB K) (CR K) (eMake (He.ga K "Grove") (F_Grove___init__ K w) (aCons (eVar 5) (aCons (eC .non) aNil)))) (aCons (eLam 4 (tb K 4) "_law_refused.<locals>.<lambda>" (CB K) (CR K) (eMake (He.ga K "Grove") (F_Grove___init__ K w) (aCons (eVar 2) (aCons (eC (.str "keys")) aNil)))) aNil)))))) (gtName 6))
    (sSeq (sIf (tsNot (tsE (eCall (F__law_alike K w 4) (aCons (eVar 6) (aCons (eOp oAdd (eOp oMulB (eLst (aCons (eTup (aCons (eC (.str "bad")) (aCons (eC (.str "rule")) (aCons (eC (.bl true)) aNil)))) aNil)) (eC (.int 4))) (eLst (aCons (eTup (aCons (eC (.str "bad")) (aCons (eC (.str "family")) (aCons (eC (.bl true)) aNil)))) aNil))) aNil))))) (sRet (eC (.bl false))) sNext)
    (sSeq (sAsg (eCall (F__law_pick K w) (aCons (eVar 0) (aCons (eLst (aCons (eC .non) (aCons (eC (.bl true)) (aCons (eNeg (eC (.int 1))) (aCons (eC (.int 65536)) (aCons (eC (.str "")) (aCons (eC (.str "Z")) (aCons (eC (.str "a b")) (aCons (eTup (aCons (eVar 3) aNil)) aNil))))))))) aNil))) (gtName 7))
    (sSeq (sAsg (eCall (F__law_pick K w) (aCons (eVar 0) (aCons (eLst (aCons (eLst (aCons (eVar 3) aNil)) (aCons (eTup (aCons (eVar 3) (aCons (eVar 3) aNil))) (aCons (eTup (aCons (eVar 3) (aCons (eC .non) aNil))) (aCons (eC .non) (aCons (eTup (aCons (eVar 7) aNil)) aNil)))))) aNil))) (gtName 8))
    (sSeq (sAsg (eLst (aCons (eLam 4 (tb K 4) "_law_refused.<locals>.<lambda>" (CB K) (CR K) (eCall (F_rank_of K w) (aCons (eVar 4) (aCons (eVar 1) (aCons (eVar 7) aNil))))) (aCons (eLam 4 (tb K 4) "_law_refused.<locals>.<lambda>" (CB K) (CR K) (eCall (F_rank_of K w) (aCons (eTup (aCons (eC (.str "come")) aNil)) (aCons (eVar 1) (aCons (eVar 3) aNil))))) (aCons (eLam 4 (tb K 4) "_law_refused.<locals>.<lambda>" (CB K) (CR K) (eCall (F_rank_of K w) (aCons (eVar 4) (aCons (eC .non) (aCons (eVar 7) aNil))))) (aCons (eLam 4 (tb K 4) "_law_refused.<locals>.<lambda>" (CB K) (CR K) (eCall (F_one_shape K w) (aCons (eVar 2) (aCons (eVar 1) (aCons (eVar 8) aNil))))) aNil))))) (gtName 6))
    (sRet (eCall (F__law_alike K w 4) (aCons (eVar 6) (aCons (eLst (aCons (eTup (aCons (eC (.str "bad")) (aCons (eC (.str "key")) (aCons (eC (.bl true)) aNil)))) (aCons (eTup (aCons (eC (.str "bad")) (aCons (eC (.str "rule")) (aCons (eC (.bl true)) aNil)))) (aCons (eTup (aCons (eC (.str "bad")) (aCons (eC (.str "family")) (aCons (eC (.bl true)) aNil)))) (aCons (eTup (aCons (eC (.str "bad")) (aCons (eC (.str "keys")) (aCons (eC (.bl true)) aNil)))) aNil))))) aNil))))))))))
def F__law_refused (K : PySem.W.Frag) (w : World) : FN := mkF 5 9 (b__law_refused K w)
def b_Grove_rule (K : PySem.W.Frag) (w : World) : FS := (sRet (eFld (He.ga K "Grove") "_rule" (eVar 0)))
def F_Grove_rule (K : PySem.W.Frag) (w : World) : FN := mkF 1 1 (b_Grove_rule K w)
def b_Grove_family (K : PySem.W.Frag) (w : World) : FS := (sRet (eFld (He.ga K "Grove") "_family" (eVar 0)))
def F_Grove_family (K : PySem.W.Frag) (w : World) : FN := mkF 1 1 (b_Grove_family K w)
def b_Grove___len__ (K : PySem.W.Frag) (w : World) : FS := (sRet (eCall fLen (aCons (eFld (He.ga K "Grove") "_nodes" (eVar 0)) aNil)))
def F_Grove___len__ (K : PySem.W.Frag) (w : World) : FN := mkF 1 1 (b_Grove___len__ K w)
def b_law (K : PySem.W.Frag) (w : World) : FS := (sSeq (sAsg (eNew (aCons (eVar 0) (aCons (eC (.int 0)) (aCons (eC (.int 7401502)) (aCons (eC (.int 0)) aNil))))) (gtName 1))
    (sSeq (sPar 5 6 (aCons (eCall (F__law_family K w) (aCons (eVar 1) aNil)) (aCons (eCall (F__law_rule K w) (aCons (eVar 1) aNil)) aNil)))
    (sSeq (sAsg (eCall (F__law_key K w) (aCons (eVar 1) (aCons (eVar 5) aNil))) (gtName 2))
    (sSeq (sAsg (eTup (aCons (eC (.str "ranks")) (aCons (eCall (F__law_ranks K w) (aCons (eVar 1) aNil)) (aCons (eCall (F__law_pick K w) (aCons (eVar 1) (aCons (eLst (aCons (eC (.str "key")) (aCons (eC (.str "came")) aNil))) aNil))) aNil)))) (gtName 3))
    (sSeq (sIf (tsNot (tsE (eCall (F__law_alike K w 4) (aCons (eCall (F_rank_of K w) (aCons (eVar 3) (aCons (eVar 5) (aCons (eVar 2) aNil)))) (aCons (eCall (F__law_rank K w) (aCons (eVar 3) (aCons (eVar 5) (aCons (eVar 2) aNil)))) aNil))))) (sRet (eC (.bl false))) sNext)
    (sSeq (sAsg (eOr (eOp oIn (eOp oIx (eVar 6) (eC (.int 0))) (eTup (aCons (eC (.str "bits")) (aCons (eC (.str "starts")) aNil)))) (eAnd (eOp oEq (eOp oIx (eVar 6) (eC (.int 0))) (eC (.str "ranks"))) (eOp oEq (eOp oIx (eVar 6) (eC (.int 2))) (eC (.str "key"))))) (gtName 4))
    (sSeq (sIf (tsNot (tsE (eCall (F__law_alike K w 4) (aCons (eLst (aCons (eCall (F_always_one K w) (aCons (eVar 6) aNil)) (aCons (eProp (He.ga K "Grove") (F_Grove_rule K w) (eMake (He.ga K "Grove") (F_Grove___init__ K w) (aCons (eVar 6) (aCons (eVar 5) aNil)))) (aCons (eProp (He.ga K "Grove") (F_Grove_family K w) (eMake (He.ga K "Grove") (F_Grove___init__ K w) (aCons (eVar 6) (aCons (eVar 5) aNil)))) (aCons (eLenO (He.ga K "Grove") (F_Grove___len__ K w) (eMake (He.ga K "Grove") (F_Grove___init__ K w) (aCons (eVar 6) (aCons (eVar 5) aNil)))) aNil))))) (aCons (eLst (aCons (eVar 4) (aCons (eVar 6) (aCons (eVar 5) (aCons (eC (.int 0)) aNil))))) aNil))))) (sRet (eC (.bl false))) sNext)
    (sRet (eCall (F__law_refused K w) (aCons (eVar 1) (aCons (eVar 5) (aCons (eVar 6) (aCons (eVar 2) (aCons (eVar 3) aNil))))))))))))))
def F_law (K : PySem.W.Frag) (w : World) : FN := mkF 1 7 (b_law K w)
/-- what the derivations lean on -/
structure Tx (P : Program) (w : World) (K : PySem.W.Frag) (mg : Str → Option Value) (base : Heap) : Prop where
  m_ValueError : mg "ValueError" = none
  m_all : mg "all" = none
  m_bool : mg "bool" = none
  m_dict : mg "dict" = none
  m_enumerate : mg "enumerate" = none
  m_int : mg "int" = none
  m_isinstance : mg "isinstance" = none
  m_len : mg "len" = none
  m_list : mg "list" = none
  m_range : mg "range" = none
  m_str : mg "str" = none
  m_sum : mg "sum" = none
  m_super : mg "super" = none
  m_tuple : mg "tuple" = none
  m_zip : mg "zip" = none
  k_BITS : KonD K mg "BITS" (.str "bits")
  k_BY_COMING : KonD K mg "BY_COMING" (.str "came")
  k_BY_KEY : KonD K mg "BY_KEY" (.str "key")
  k_DIGIT_BITS : KonD K mg "DIGIT_BITS" (.int 4)
  k_FAMILIES : KonD K mg "FAMILIES" (.tup [.str "numbers", .str "words"])
  k_KEY_BITS : KonD K mg "KEY_BITS" (.int 16)
  k_LETTERS : KonD K mg "LETTERS" (.str "abcdefghijklmnopqrstuvwxyz")
  k_MOST_KEY : KonD K mg "MOST_KEY" (.int 65535)
  k_MOST_KEYS : KonD K mg "MOST_KEYS" (.int 300)
  k_MOST_LEAST : KonD K mg "MOST_LEAST" (.int 4)
  k_MOST_LETTERS : KonD K mg "MOST_LETTERS" (.int 12)
  k_MOST_RANK : KonD K mg "MOST_RANK" (.int 99)
  k_MOST_RANKS : KonD K mg "MOST_RANKS" (.int 12)
  k_NUMBERS : KonD K mg "NUMBERS" (.str "numbers")
  k_PAGES : KonD K mg "PAGES" (.str "pages")
  k_PLAIN : KonD K mg "PLAIN" (.tup [.str "come", .str "levels", .str "bits", .str "starts"])
  k_RANKS : KonD K mg "RANKS" (.str "ranks")
  k_STARTS : KonD K mg "STARTS" (.str "starts")
  own_BadArgument : ∃ cc cda, PySem.OwnX.OwnTxt P K mg base "BadArgument" "name" "bad argument: " (CB K) (He.ma K (CB K) "__init__") cc cda
  own_Refused : ∃ cc cda, PySem.OwnX.OwnTxt P K mg base "Refused" "why" "refused: " (CR K) (He.ma K (CR K) "__init__") cc cda
  heard : HeardFn K mg "_law_heard" (CB K) (CR K)
  tabs : ∀ p ∈ tfs, LamX.TabB base mg (He.cT K p.1).1 (He.cT K p.1).2
  d_is_number : DefAt K mg "is_number" (defArgs (top 16)) (defBody (top 16)) (defScope (top 16))
  d_check : DefAt K mg "check" (defArgs (top 17)) (defBody (top 17)) (defScope (top 17))
  d_is_word : DefAt K mg "is_word" (defArgs (top 18)) (defBody (top 18)) (defScope (top 18))
  d_is_family : DefAt K mg "is_family" (defArgs (top 19)) (defBody (top 19)) (defScope (top 19))
  d_is_key : DefAt K mg "is_key" (defArgs (top 20)) (defBody (top 20)) (defScope (top 20))
  d_are_rising : DefAt K mg "are_rising" (defArgs (top 21)) (defBody (top 21)) (defScope (top 21))
  d_are_keys : DefAt K mg "are_keys" (defArgs (top 22)) (defBody (top 22)) (defScope (top 22))
  d_row_of : DefAt K mg "row_of" (defArgs (top 24)) (defBody (top 24)) (defScope (top 24))
  d_is_rule : DefAt K mg "is_rule" (defArgs (top 38)) (defBody (top 38)) (defScope (top 38))
  d_rank_in : DefAt K mg "rank_in" (defArgs (top 39)) (defBody (top 39)) (defScope (top 39))
  d_rank_of : DefAt K mg "rank_of" (defArgs (top 40)) (defBody (top 40)) (defScope (top 40))
  d_check_all : DefAt K mg "check_all" (defArgs (top 43)) (defBody (top 43)) (defScope (top 43))
  d_one_shape : DefAt K mg "one_shape" (defArgs (top 44)) (defBody (top 44)) (defScope (top 44))
  d_always_one : DefAt K mg "always_one" (defArgs (top 45)) (defBody (top 45)) (defScope (top 45))
  d__law_taken : DefAt K mg "_law_taken" (defArgs (top 49)) (defBody (top 49)) (defScope (top 49))
  d__law_pick : DefAt K mg "_law_pick" (defArgs (top 50)) (defBody (top 50)) (defScope (top 50))
  d__law_family : DefAt K mg "_law_family" (defArgs (top 51)) (defBody (top 51)) (defScope (top 51))
  d__law_ranks : DefAt K mg "_law_ranks" (defArgs (top 52)) (defBody (top 52)) (defScope (top 52))
  d__law_rule : DefAt K mg "_law_rule" (defArgs (top 53)) (defBody (top 53)) (defScope (top 53))
  d__law_word : DefAt K mg "_law_word" (defArgs (top 54)) (defBody (top 54)) (defScope (top 54))
  d__law_key : DefAt K mg "_law_key" (defArgs (top 55)) (defBody (top 55)) (defScope (top 55))
  d__law_alike : DefAt K mg "_law_alike" (defArgs (top 56)) (defBody (top 56)) (defScope (top 56))
  d__law_letters : DefAt K mg "_law_letters" (defArgs (top 57)) (defBody (top 57)) (defScope (top 57))
  d__law_rank : DefAt K mg "_law_rank" (defArgs (top 58)) (defBody (top 58)) (defScope (top 58))
  d__law_no_rule : DefAt K mg "_law_no_rule" (defArgs (top 59)) (defBody (top 59)) (defScope (top 59))
  d_Grove___init__ : MethD K "Grove" "__init__" (defArgs (cm (top 47) 0)) (defBody (cm (top 47) 0)) (defScope (cm (top 47) 0))
  d__law_refused : DefAt K mg "_law_refused" (defArgs (top 61)) (defBody (top 61)) (defScope (top 61))
  d_Grove_rule : PropD K "Grove" "rule" (defArgs (cm (top 47) 1)) (defBody (cm (top 47) 1)) (defScope (cm (top 47) 1))
  d_Grove_family : PropD K "Grove" "family" (defArgs (cm (top 47) 2)) (defBody (cm (top 47) 2)) (defScope (cm (top 47) 2))
  d_Grove___len__ : MethD K "Grove" "__len__" (defArgs (cm (top 47) 3)) (defBody (cm (top 47) 3)) (defScope (cm (top 47) 3))
  d_law : DefAt K mg "law" (defArgs (top 62)) (defBody (top 62)) (defScope (top 62))
  c_Grove : Cls K (He.ga K "Grove")
  n_Grove__rule : NoAttr K (He.ga K "Grove") "_rule"
  n_Grove__family : NoAttr K (He.ga K "Grove") "_family"
  n_Grove__nodes : NoAttr K (He.ga K "Grove") "_nodes"
  n_Grove__numbers : NoAttr K (He.ga K "Grove") "_numbers"
  n_Grove__many : NoAttr K (He.ga K "Grove") "_many"
  n_Grove__heights : NoAttr K (He.ga K "Grove") "_heights"
  mk_Grove : Mk K (He.ga K "Grove") (He.ma K (He.ga K "Grove") "__init__")
  g_Grove : mg "Grove" = some (.ref (He.ga K "Grove"))
  mm_Grove___len__ : Meth K (He.ga K "Grove") "__len__" (He.ma K (He.ga K "Grove") "__len__")
section
variable {P : Program} {w : World} {K : PySem.W.Frag} {mg : Str → Option Value} {base : Heap}
theorem Tx.tab (T : Tx P w K mg base) (i : Nat) (h : i < 5 := by decide) : LamX.TabB base mg (He.cT K (tfs.getD i (("", none), "")).1).1 (tb K i) := T.tabs _ (by
  rw [List.getD_eq_getElem?_getD, List.getElem?_eq_getElem (show i < tfs.length from h)]
  exact List.getElem_mem _)
theorem sc_is_number : FnScope [("value" : Str), ("low" : Str), ("high" : Str)] [("value" : Str), ("low" : Str), ("high" : Str)] (defScope (top 16)) := ⟨by kernel_rfl, by kernel_rfl, by kernel_rfl, by decide +kernel, by kernel_rfl, by decide +kernel, by decide +kernel⟩
theorem r_is_number (T : Tx P w K mg base) : Ready P w K mg base 2 "is_number" (F_is_number K w) := by
  refine ready_mk (N := [("value" : Str), ("low" : Str), ("high" : Str)]) (ps := [("value" : Str), ("low" : Str), ("high" : Str)]) (n := 3) (m := 3) (k := 1) T.d_is_number sc_is_number rfl rfl (fun _ _ _ _ _ _ us hl => match us, hl with | [_, _, _], _ => rfl) fun cc A outer s H E hcc hr => ?_
  subst hcc
  exact (rss_one (rs_ret (re_and (re_isi rfl T.m_isinstance (re_var (i := 0) rfl (by first | exact .inl rfl | exact .inr (.inl rfl) | exact .inr (.inr rfl))) rfl T.m_int bt_int) (re_and (re_not (re_isi rfl T.m_isinstance (re_var (i := 0) rfl (by first | exact .inl rfl | exact .inr (.inl rfl) | exact .inr (.inr rfl))) rfl T.m_bool bt_bool)) (re_one (re_chain ro_le ro_le (re_var (i := 1) rfl (by first | exact .inl rfl | exact .inr (.inl rfl) | exact .inr (.inr rfl))) (re_var (i := 0) rfl (by first | exact .inl rfl | exact .inr (.inl rfl) | exact .inr (.inr rfl))) (re_var (i := 2) rfl (by first | exact .inl rfl | exact .inr (.inl rfl) | exact .inr (.inr rfl)))))))))
theorem sc_check : FnScope [("is_right" : Str), ("name" : Str)] [("is_right" : Str), ("name" : Str)] (defScope (top 17)) := ⟨by kernel_rfl, by kernel_rfl, by kernel_rfl, by decide +kernel, by kernel_rfl, by decide +kernel, by decide +kernel⟩
theorem r_check (T : Tx P w K mg base) : Ready P w K mg base 2 "check" (F_check K w) := by
  refine ready_mk (N := [("is_right" : Str), ("name" : Str)]) (ps := [("is_right" : Str), ("name" : Str)]) (n := 2) (m := 2) (k := 1) T.d_check sc_check rfl rfl (fun _ _ _ _ _ _ us hl => match us, hl with | [_, _], _ => rfl) fun cc A outer s H E hcc hr => ?_
  subst hcc
  exact (rss_one (rs_if (rt_not (rt_val (re_var (i := 0) rfl (by first | exact .inl rfl | exact .inr (.inl rfl) | exact .inr (.inr rfl))))) (rss_one (own_raise T.own_BadArgument (fun T2 => rs_raise rfl (takes_of rfl rfl rfl rfl) T2 OwnX.fld_name (by decide) hr (re_var (i := 1) rfl (by first | exact .inl rfl | exact .inr (.inl rfl) | exact .inr (.inr rfl))) rfl))) rss_nil))
theorem sc_is_word : FnScope [("value" : Str), ("sign" : Str)] [("value" : Str)] (defScope (top 18)) := ⟨by kernel_rfl, by kernel_rfl, by kernel_rfl, by decide +kernel, by kernel_rfl, by decide +kernel, by decide +kernel⟩
theorem r_is_word (T : Tx P w K mg base) : Ready P w K mg base 4 "is_word" (F_is_word K w) := by
  refine ready_mk (N := [("value" : Str), ("sign" : Str)]) (ps := [("value" : Str)]) (n := 1) (m := 2) (k := 3) T.d_is_word sc_is_word rfl rfl (fun _ _ _ _ _ _ us hl => match us, hl with | [_], _ => rfl) fun cc A outer s H E hcc hr => ?_
  subst hcc
  exact (rss_cons (rs_if (rt_w (rw_or (rt_not (rt_val (re_isi rfl T.m_isinstance (re_var (i := 0) rfl (by first | exact .inl rfl | exact .inr (.inl rfl) | exact .inr (.inr rfl))) rfl T.m_str bt_str))) (rw_or1 (rt_not (rt_chain ro_le ro_le re_int (re_cb (rcl_len) rfl T.m_len bt_len (ra_cons (re_var (i := 0) rfl (by first | exact .inl rfl | exact .inr (.inl rfl) | exact .inr (.inr rfl))) ra_nil)) (re_glob rfl T.k_MOST_LETTERS)))))) (rss_one (rs_ret re_bl)) rss_nil)
      (rss_one (rs_ret (re_q (stop := false) (n := 0) (P := tb K 0) (q := "is_word.<locals>.<genexpr>") (tg := .nm 1) (own := [(("sign" : Str), 1)]) qcall_all hr rfl sc_is_word.nd rfl T.m_all bt_all (ri_seq (re_var (i := 0) rfl (by first | exact .inl rfl | exact .inr (.inl rfl) | exact .inr (.inr rfl)))) (genOk_by (by kernel_rfl)) (by kernel_rfl) (T.tab 0) rfl (by kernel_rfl) (fun _ _ _ _ _ => pg_name (i := 1) sc_is_word.nd rfl (.inl rfl)) (fun _ _ _ _ _ => (re_cmp ro_in (re_var (i := 1) rfl (by first | exact .inl rfl | exact .inr (.inl rfl) | exact .inr (.inr rfl))) (re_glob rfl T.k_LETTERS) rfl))))))
theorem sc_is_family : FnScope [("value" : Str)] [("value" : Str)] (defScope (top 19)) := ⟨by kernel_rfl, by kernel_rfl, by kernel_rfl, by decide +kernel, by kernel_rfl, by decide +kernel, by decide +kernel⟩
theorem r_is_family (T : Tx P w K mg base) : Ready P w K mg base 2 "is_family" (F_is_family K w) := by
  refine ready_mk (N := [("value" : Str)]) (ps := [("value" : Str)]) (n := 1) (m := 1) (k := 1) T.d_is_family sc_is_family rfl rfl (fun _ _ _ _ _ _ us hl => match us, hl with | [_], _ => rfl) fun cc A outer s H E hcc hr => ?_
  subst hcc
  exact (rss_one (rs_ret (re_and (re_isi rfl T.m_isinstance (re_var (i := 0) rfl (by first | exact .inl rfl | exact .inr (.inl rfl) | exact .inr (.inr rfl))) rfl T.m_str bt_str) (re_one (re_cmp ro_in (re_var (i := 0) rfl (by first | exact .inl rfl | exact .inr (.inl rfl) | exact .inr (.inr rfl))) (re_glob rfl T.k_FAMILIES) rfl)))))
theorem sc_is_key : FnScope [("family" : Str), ("value" : Str)] [("family" : Str), ("value" : Str)] (defScope (top 20)) := ⟨by kernel_rfl, by kernel_rfl, by kernel_rfl, by decide +kernel, by kernel_rfl, by decide +kernel, by decide +kernel⟩
theorem r_is_key (T : Tx P w K mg base) : Ready P w K mg base 5 "is_key" (F_is_key K w) := by
  refine ready_mk (N := [("family" : Str), ("value" : Str)]) (ps := [("family" : Str), ("value" : Str)]) (n := 2) (m := 2) (k := 4) T.d_is_key sc_is_key rfl rfl (fun _ _ _ _ _ _ us hl => match us, hl with | [_, _], _ => rfl) fun cc A outer s H E hcc hr => ?_
  subst hcc
  exact (rss_one (rs_ret (re_if (rt_cmp (ro_eq hr) (re_var (i := 0) rfl (by first | exact .inl rfl | exact .inr (.inl rfl) | exact .inr (.inr rfl))) (re_glob rfl T.k_NUMBERS) rfl) (re_call (r_is_number T) (takes_of rfl rfl rfl rfl) hr (by decide) rfl (ra_cons (re_var (i := 1) rfl (by first | exact .inl rfl | exact .inr (.inl rfl) | exact .inr (.inr rfl))) (ra_cons re_int (ra_cons (re_glob rfl T.k_MOST_KEY) ra_nil)))) (re_call (r_is_word T) (takes_of rfl rfl rfl rfl) hr (by decide) rfl (ra_cons (re_var (i := 1) rfl (by first | exact .inl rfl | exact .inr (.inl rfl) | exact .inr (.inr rfl))) ra_nil)))))
theorem sc_are_rising : FnScope [("rows" : Str), ("one" : Str), ("other" : Str)] [("rows" : Str)] (defScope (top 21)) := ⟨by kernel_rfl, by kernel_rfl, by kernel_rfl, by decide +kernel, by kernel_rfl, by decide +kernel, by decide +kernel⟩
theorem r_are_rising (T : Tx P w K mg base) : Ready P w K mg base 4 "are_rising" (F_are_rising K w) := by
  refine ready_mk (N := [("rows" : Str), ("one" : Str), ("other" : Str)]) (ps := [("rows" : Str)]) (n := 1) (m := 3) (k := 3) T.d_are_rising sc_are_rising rfl rfl (fun _ _ _ _ _ _ us hl => match us, hl with | [_], _ => rfl) fun cc A outer s H E hcc hr => ?_
  subst hcc
  exact (rss_one (rs_ret (re_q (stop := false) (n := 1) (P := tb K 1) (q := "are_rising.<locals>.<genexpr>") (tg := .tp [1, 2]) (own := [(("one" : Str), 1), (("other" : Str), 2)]) qcall_all hr rfl sc_are_rising.nd rfl T.m_all bt_all (ri_zip rfl T.m_zip (ra_cons (re_var (i := 0) rfl (by first | exact .inl rfl | exact .inr (.inl rfl) | exact .inr (.inr rfl))) (ra_cons (re_sl (re_var (i := 0) rfl (by first | exact .inl rfl | exact .inr (.inl rfl) | exact .inr (.inr rfl))) (rp_some re_int) rp_none) ra_nil))) (genOk_by (by kernel_rfl)) (by kernel_rfl) (T.tab 1) rfl (by kernel_rfl) (fun _ _ _ _ _ => pg_tp (is := [1, 2]) rfl (pgs_cons (pg_name (i := 1) sc_are_rising.nd rfl (.inl rfl)) (pgs_cons (pg_name (i := 2) sc_are_rising.nd rfl (.inl rfl)) pgs_nil))) (fun _ _ _ _ _ => (re_cmp (ro_lt ((Room.in1 (Room.in1 hr)).deeper _)) (re_var (i := 1) rfl (by first | exact .inl rfl | exact .inr (.inl rfl) | exact .inr (.inr rfl))) (re_var (i := 2) rfl (by first | exact .inl rfl | exact .inr (.inl rfl) | exact .inr (.inr rfl))) rfl)))))
theorem sc_are_keys : FnScope [("family" : Str), ("value" : Str), ("own" : Str)] [("family" : Str), ("value" : Str)] (defScope (top 22)) := ⟨by kernel_rfl, by kernel_rfl, by kernel_rfl, by decide +kernel, by kernel_rfl, by decide +kernel, by decide +kernel⟩
theorem r_are_keys (T : Tx P w K mg base) : Ready P w K mg base 9 "are_keys" (F_are_keys K w) := by
  refine ready_mk (N := [("family" : Str), ("value" : Str), ("own" : Str)]) (ps := [("family" : Str), ("value" : Str)]) (n := 2) (m := 3) (k := 8) T.d_are_keys sc_are_keys rfl rfl (fun _ _ _ _ _ _ us hl => match us, hl with | [_, _], _ => rfl) fun cc A outer s H E hcc hr => ?_
  subst hcc
  exact (rss_one (rs_ret (re_and (re_isi rfl T.m_isinstance (re_var (i := 1) rfl (by first | exact .inl rfl | exact .inr (.inl rfl) | exact .inr (.inr rfl))) rfl T.m_tuple bt_tuple) (re_one (re_q (stop := false) (n := 2) (P := tb K 2) (q := "are_keys.<locals>.<genexpr>") (tg := .nm 2) (own := [(("own" : Str), 2)]) qcall_all hr rfl sc_are_keys.nd rfl T.m_all bt_all (ri_seq (re_var (i := 1) rfl (by first | exact .inl rfl | exact .inr (.inl rfl) | exact .inr (.inr rfl)))) (genOk_by (by kernel_rfl)) (by kernel_rfl) (T.tab 2) rfl (by kernel_rfl) (fun _ _ _ _ _ => pg_name (i := 2) sc_are_keys.nd rfl (.inl rfl)) (fun _ _ _ _ _ => (re_call (r_is_key T) LamX.takes0 ((Room.in1 (Room.in1 hr)).deeper _) (by decide) rfl (ra_cons (re_var (i := 0) rfl (by first | exact .inl rfl | exact .inr (.inl rfl) | exact .inr (.inr rfl))) (ra_cons (re_var (i := 2) rfl (by first | exact .inl rfl | exact .inr (.inl rfl) | exact .inr (.inr rfl))) ra_nil)))))))))
theorem sc_row_of : FnScope [("family" : Str), ("key" : Str), ("place" : Str), ("sign" : Str)] [("family" : Str), ("key" : Str)] (defScope (top 24)) := ⟨by kernel_rfl, by kernel_rfl, by kernel_rfl, by decide +kernel, by kernel_rfl, by decide +kernel, by decide +kernel⟩
theorem r_row_of (T : Tx P w K mg base) : Ready P w K mg base 2 "row_of" (F_row_of K w) := by
  refine ready_mk (N := [("family" : Str), ("key" : Str), ("place" : Str), ("sign" : Str)]) (ps := [("family" : Str), ("key" : Str)]) (n := 2) (m := 4) (k := 1) T.d_row_of sc_row_of rfl rfl (fun _ _ _ _ _ _ us hl => match us, hl with | [_, _], _ => rfl) fun cc A outer s H E hcc hr => ?_
  subst hcc
  exact (rss_cons (rs_if (rt_cmp (ro_eq hr) (re_var (i := 0) rfl (by first | exact .inl rfl | exact .inr (.inl rfl) | exact .inr (.inr rfl))) (re_glob rfl T.k_NUMBERS) rfl) (rss_one (rs_ret (re_tupOf rfl T.m_tuple (re_lc (tg := .nm 2) (own := [(("place" : Str), 2)]) rfl sc_row_of.nd (ri_rng3 rfl T.m_range (ra_cons (re_op ro_sub (re_glob rfl T.k_KEY_BITS) (re_glob rfl T.k_DIGIT_BITS)) (ra_cons (re_neg re_int) (ra_cons (re_neg (re_glob rfl T.k_DIGIT_BITS)) ra_nil)))) (by kernel_rfl) (by kernel_rfl) (fun _ _ _ _ _ => pg_name (i := 2) sc_row_of.nd rfl (.inl rfl)) (fun _ _ _ _ _ => (re_op ro_and (re_op ro_shr (re_var (i := 1) rfl (by first | exact .inl rfl | exact .inr (.inl rfl) | exact .inr (.inr rfl))) (re_var (i := 2) rfl (by first | exact .inl rfl | exact .inr (.inl rfl) | exact .inr (.inr rfl)))) re_int)))))) rss_nil)
      (rss_one (rs_ret (re_tupOf rfl T.m_tuple (re_op ro_add (re_lc (tg := .nm 3) (own := [(("sign" : Str), 3)]) rfl sc_row_of.nd (ri_seq (re_var (i := 1) rfl (by first | exact .inl rfl | exact .inr (.inl rfl) | exact .inr (.inr rfl)))) (by kernel_rfl) (by kernel_rfl) (fun _ _ _ _ _ => pg_name (i := 3) sc_row_of.nd rfl (.inl rfl)) (fun _ _ _ _ _ => (re_op ro_add (re_idx (re_glob rfl T.k_LETTERS) (re_var (i := 3) rfl (by first | exact .inl rfl | exact .inr (.inl rfl) | exact .inr (.inr rfl)))) re_int))) (re_lst (ra_cons re_int ra_nil)))))))
theorem sc_is_rule : FnScope [("value" : Str), ("ranks" : Str), ("own" : Str)] [("value" : Str)] (defScope (top 38)) := ⟨by kernel_rfl, by kernel_rfl, by kernel_rfl, by decide +kernel, by kernel_rfl, by decide +kernel, by decide +kernel⟩
theorem r_is_rule (T : Tx P w K mg base) : Ready P w K mg base 6 "is_rule" (F_is_rule K w) := by
  refine ready_mk (N := [("value" : Str), ("ranks" : Str), ("own" : Str)]) (ps := [("value" : Str)]) (n := 1) (m := 3) (k := 5) T.d_is_rule sc_is_rule rfl rfl (fun _ _ _ _ _ _ us hl => match us, hl with | [_], _ => rfl) fun cc A outer s H E hcc hr => ?_
  subst hcc
  exact (rss_cons (rs_if (rt_w (rw_or (rt_not (rt_val (re_isi rfl T.m_isinstance (re_var (i := 0) rfl (by first | exact .inl rfl | exact .inr (.inl rfl) | exact .inr (.inr rfl))) rfl T.m_tuple bt_tuple))) (rw_or (rt_cmp (ro_eq hr) (re_cb (rcl_len) rfl T.m_len bt_len (ra_cons (re_var (i := 0) rfl (by first | exact .inl rfl | exact .inr (.inl rfl) | exact .inr (.inr rfl))) ra_nil)) re_int rfl) (rw_or1 (rt_not (rt_val (re_isi rfl T.m_isinstance (re_ix (re_var (i := 0) rfl (by first | exact .inl rfl | exact .inr (.inl rfl) | exact .inr (.inr rfl))) re_int) rfl T.m_str bt_str))))))) (rss_one (rs_ret re_bl)) rss_nil)
      (rss_cons (rs_if (rt_cmp ro_in (re_ix (re_var (i := 0) rfl (by first | exact .inl rfl | exact .inr (.inl rfl) | exact .inr (.inr rfl))) re_int) (re_glob rfl T.k_PLAIN) rfl) (rss_one (rs_ret (re_cmp (ro_eq hr) (re_cb (rcl_len) rfl T.m_len bt_len (ra_cons (re_var (i := 0) rfl (by first | exact .inl rfl | exact .inr (.inl rfl) | exact .inr (.inr rfl))) ra_nil)) re_int rfl))) rss_nil)
      (rss_cons (rs_if (rt_cmp (ro_eq hr) (re_ix (re_var (i := 0) rfl (by first | exact .inl rfl | exact .inr (.inl rfl) | exact .inr (.inr rfl))) re_int) (re_glob rfl T.k_PAGES) rfl) (rss_one (rs_ret (re_and (re_cmp (ro_eq hr) (re_cb (rcl_len) rfl T.m_len bt_len (ra_cons (re_var (i := 0) rfl (by first | exact .inl rfl | exact .inr (.inl rfl) | exact .inr (.inr rfl))) ra_nil)) re_int rfl) (re_one (re_call (r_is_number T) (takes_of rfl rfl rfl rfl) hr (by decide) rfl (ra_cons (re_ix (re_var (i := 0) rfl (by first | exact .inl rfl | exact .inr (.inl rfl) | exact .inr (.inr rfl))) re_int) (ra_cons re_int (ra_cons (re_glob rfl T.k_MOST_LEAST) ra_nil)))))))) rss_nil)
      (rss_cons (rs_if (rt_w (rw_or (rt_cmp (ro_ne hr) (re_ix (re_var (i := 0) rfl (by first | exact .inl rfl | exact .inr (.inl rfl) | exact .inr (.inr rfl))) re_int) (re_glob rfl T.k_RANKS) rfl) (rw_or (rt_cmp (ro_ne hr) (re_cb (rcl_len) rfl T.m_len bt_len (ra_cons (re_var (i := 0) rfl (by first | exact .inl rfl | exact .inr (.inl rfl) | exact .inr (.inr rfl))) ra_nil)) re_int rfl) (rw_or (rt_not (rt_val (re_isi rfl T.m_isinstance (re_ix (re_var (i := 0) rfl (by first | exact .inl rfl | exact .inr (.inl rfl) | exact .inr (.inr rfl))) re_int) rfl T.m_str bt_str))) (rw_or1 (rt_cmp ro_notin (re_ix (re_var (i := 0) rfl (by first | exact .inl rfl | exact .inr (.inl rfl) | exact .inr (.inr rfl))) re_int) (re_tup (ra_cons (re_glob rfl T.k_BY_KEY) (ra_cons (re_glob rfl T.k_BY_COMING) ra_nil))) rfl)))))) (rss_one (rs_ret re_bl)) rss_nil)
      (rss_cons (rs_set (i := 1) sc_is_rule.nd rfl (by first | exact .inl rfl | exact .inr rfl) (re_ix (re_var (i := 0) rfl (by first | exact .inl rfl | exact .inr (.inl rfl) | exact .inr (.inr rfl))) re_int))
      (rss_cons (rs_if (rt_w (rw_or (rt_not (rt_val (re_isi rfl T.m_isinstance (re_var (i := 1) rfl (by first | exact .inl rfl | exact .inr (.inl rfl) | exact .inr (.inr rfl))) rfl T.m_tuple bt_tuple))) (rw_or1 (rt_not (rt_chain ro_le ro_le re_int (re_cb (rcl_len) rfl T.m_len bt_len (ra_cons (re_var (i := 1) rfl (by first | exact .inl rfl | exact .inr (.inl rfl) | exact .inr (.inr rfl))) ra_nil)) (re_glob rfl T.k_MOST_RANKS)))))) (rss_one (rs_ret re_bl)) rss_nil)
      (rss_one (rs_ret (re_q (stop := false) (n := 3) (P := tb K 3) (q := "is_rule.<locals>.<genexpr>") (tg := .nm 2) (own := [(("own" : Str), 2)]) qcall_all hr rfl sc_is_rule.nd rfl T.m_all bt_all (ri_seq (re_var (i := 1) rfl (by first | exact .inl rfl | exact .inr (.inl rfl) | exact .inr (.inr rfl)))) (genOk_by (by kernel_rfl)) (by kernel_rfl) (T.tab 3) rfl (by kernel_rfl) (fun _ _ _ _ _ => pg_name (i := 2) sc_is_rule.nd rfl (.inl rfl)) (fun _ _ _ _ _ => (re_call (r_is_number T) LamX.takes0 ((Room.in1 (Room.in1 hr)).deeper _) (by decide) rfl (ra_cons (re_var (i := 2) rfl (by first | exact .inl rfl | exact .inr (.inl rfl) | exact .inr (.inr rfl))) (ra_cons re_int (ra_cons (re_glob rfl T.k_MOST_RANK) ra_nil))))))))))))))
theorem sc_rank_in : FnScope [("rule" : Str), ("family" : Str), ("key" : Str), ("total" : Str), ("place" : Str), ("letter" : Str)] [("rule" : Str), ("family" : Str), ("key" : Str)] (defScope (top 39)) := ⟨by kernel_rfl, by kernel_rfl, by kernel_rfl, by decide +kernel, by kernel_rfl, by decide +kernel, by decide +kernel⟩
theorem r_rank_in (T : Tx P w K mg base) : Ready P w K mg base 3 "rank_in" (F_rank_in K w) := by
  refine ready_mk (N := [("rule" : Str), ("family" : Str), ("key" : Str), ("total" : Str), ("place" : Str), ("letter" : Str)]) (ps := [("rule" : Str), ("family" : Str), ("key" : Str)]) (n := 3) (m := 6) (k := 2) T.d_rank_in sc_rank_in rfl rfl (fun _ _ _ _ _ _ us hl => match us, hl with | [_, _, _], _ => rfl) fun cc A outer s H E hcc hr => ?_
  subst hcc
  exact (rss_cons (rs_set (i := 3) sc_rank_in.nd rfl (by first | exact .inl rfl | exact .inr rfl) (re_cb (rcl_sum rfl) rfl T.m_sum bt_sum (ra_cons (re_lc (tg := .tp [4, 5]) (own := [(("place" : Str), 4), (("letter" : Str), 5)]) rfl sc_rank_in.nd (ri_enum rfl T.m_enumerate (ra_cons (re_call (r_row_of T) (takes_of rfl rfl rfl rfl) hr (by decide) rfl (ra_cons (re_var (i := 1) rfl (by first | exact .inl rfl | exact .inr (.inl rfl) | exact .inr (.inr rfl))) (ra_cons (re_var (i := 2) rfl (by first | exact .inl rfl | exact .inr (.inl rfl) | exact .inr (.inr rfl))) ra_nil))) ra_nil)) (by kernel_rfl) (by kernel_rfl) (fun _ _ _ _ _ => pg_tp (is := [4, 5]) rfl (pgs_cons (pg_name (i := 4) sc_rank_in.nd rfl (.inl rfl)) (pgs_cons (pg_name (i := 5) sc_rank_in.nd rfl (.inl rfl)) pgs_nil))) (fun _ _ _ _ _ => (re_op ro_mulB (re_var (i := 5) rfl (by first | exact .inl rfl | exact .inr (.inl rfl) | exact .inr (.inr rfl))) (re_op ro_add (re_var (i := 4) rfl (by first | exact .inl rfl | exact .inr (.inl rfl) | exact .inr (.inr rfl))) re_int)))) ra_nil)))
      (rss_one (rs_ret (re_ix (re_ix (re_var (i := 0) rfl (by first | exact .inl rfl | exact .inr (.inl rfl) | exact .inr (.inr rfl))) re_int) (re_op ro_mod (re_var (i := 3) rfl (by first | exact .inl rfl | exact .inr (.inl rfl) | exact .inr (.inr rfl))) (re_cb (rcl_len) rfl T.m_len bt_len (ra_cons (re_ix (re_var (i := 0) rfl (by first | exact .inl rfl | exact .inr (.inl rfl) | exact .inr (.inr rfl))) re_int) ra_nil)))))))
theorem sc_rank_of : FnScope [("rule" : Str), ("family" : Str), ("key" : Str)] [("rule" : Str), ("family" : Str), ("key" : Str)] (defScope (top 40)) := ⟨by kernel_rfl, by kernel_rfl, by kernel_rfl, by decide +kernel, by kernel_rfl, by decide +kernel, by decide +kernel⟩
theorem r_rank_of (T : Tx P w K mg base) : Ready P w K mg base 10 "rank_of" (F_rank_of K w) := by
  refine ready_mk (N := [("rule" : Str), ("family" : Str), ("key" : Str)]) (ps := [("rule" : Str), ("family" : Str), ("key" : Str)]) (n := 3) (m := 3) (k := 9) T.d_rank_of sc_rank_of rfl rfl (fun _ _ _ _ _ _ us hl => match us, hl with | [_, _, _], _ => rfl) fun cc A outer s H E hcc hr => ?_
  subst hcc
  exact (rss_cons (rs_drop (re_call (r_check T) (takes_of rfl rfl rfl rfl) hr (by decide) rfl (ra_cons (re_and (re_call (r_is_rule T) (takes_of rfl rfl rfl rfl) hr (by decide) rfl (ra_cons (re_var (i := 0) rfl (by first | exact .inl rfl | exact .inr (.inl rfl) | exact .inr (.inr rfl))) ra_nil)) (re_one (re_cmp (ro_eq hr) (re_ix (re_var (i := 0) rfl (by first | exact .inl rfl | exact .inr (.inl rfl) | exact .inr (.inr rfl))) re_int) (re_glob rfl T.k_RANKS) rfl))) (ra_cons re_str ra_nil))))
      (rss_cons (rs_drop (re_call (r_check T) (takes_of rfl rfl rfl rfl) hr (by decide) rfl (ra_cons (re_call (r_is_family T) (takes_of rfl rfl rfl rfl) hr (by decide) rfl (ra_cons (re_var (i := 1) rfl (by first | exact .inl rfl | exact .inr (.inl rfl) | exact .inr (.inr rfl))) ra_nil)) (ra_cons re_str ra_nil))))
      (rss_cons (rs_drop (re_call (r_check T) (takes_of rfl rfl rfl rfl) hr (by decide) rfl (ra_cons (re_call (r_are_keys T) (takes_of rfl rfl rfl rfl) hr (by decide) rfl (ra_cons (re_var (i := 1) rfl (by first | exact .inl rfl | exact .inr (.inl rfl) | exact .inr (.inr rfl))) (ra_cons (re_tup (ra_cons (re_var (i := 2) rfl (by first | exact .inl rfl | exact .inr (.inl rfl) | exact .inr (.inr rfl))) ra_nil)) ra_nil))) (ra_cons re_str ra_nil))))
      (rss_one (rs_ret (re_call (r_rank_in T) (takes_of rfl rfl rfl rfl) hr (by decide) rfl (ra_cons (re_var (i := 0) rfl (by first | exact .inl rfl | exact .inr (.inl rfl) | exact .inr (.inr rfl))) (ra_cons (re_var (i := 1) rfl (by first | exact .inl rfl | exact .inr (.inl rfl) | exact .inr (.inr rfl))) (ra_cons (re_var (i := 2) rfl (by first | exact .inl rfl | exact .inr (.inl rfl) | exact .inr (.inr rfl))) ra_nil)))))))))
theorem sc_check_all : FnScope [("rule" : Str), ("family" : Str), ("keys" : Str)] [("rule" : Str), ("family" : Str), ("keys" : Str)] (defScope (top 43)) := ⟨by kernel_rfl, by kernel_rfl, by kernel_rfl, by decide +kernel, by kernel_rfl, by decide +kernel, by decide +kernel⟩
theorem r_check_all (T : Tx P w K mg base) : Ready P w K mg base 10 "check_all" (F_check_all K w) := by
  refine ready_mk (N := [("rule" : Str), ("family" : Str), ("keys" : Str)]) (ps := [("rule" : Str), ("family" : Str), ("keys" : Str)]) (n := 3) (m := 3) (k := 9) T.d_check_all sc_check_all rfl rfl (fun _ _ _ _ _ _ us hl => match us, hl with | [_, _, _], _ => rfl) fun cc A outer s H E hcc hr => ?_
  subst hcc
  exact (rss_cons (rs_drop (re_call (r_check T) (takes_of rfl rfl rfl rfl) hr (by decide) rfl (ra_cons (re_call (r_is_rule T) (takes_of rfl rfl rfl rfl) hr (by decide) rfl (ra_cons (re_var (i := 0) rfl (by first | exact .inl rfl | exact .inr (.inl rfl) | exact .inr (.inr rfl))) ra_nil)) (ra_cons re_str ra_nil))))
      (rss_cons (rs_drop (re_call (r_check T) (takes_of rfl rfl rfl rfl) hr (by decide) rfl (ra_cons (re_call (r_is_family T) (takes_of rfl rfl rfl rfl) hr (by decide) rfl (ra_cons (re_var (i := 1) rfl (by first | exact .inl rfl | exact .inr (.inl rfl) | exact .inr (.inr rfl))) ra_nil)) (ra_cons re_str ra_nil))))
      (rss_one (rs_drop (re_call (r_check T) (takes_of rfl rfl rfl rfl) hr (by decide) rfl (ra_cons (re_and (re_call (r_are_keys T) (takes_of rfl rfl rfl rfl) hr (by decide) rfl (ra_cons (re_var (i := 1) rfl (by first | exact .inl rfl | exact .inr (.inl rfl) | exact .inr (.inr rfl))) (ra_cons (re_var (i := 2) rfl (by first | exact .inl rfl | exact .inr (.inl rfl) | exact .inr (.inr rfl))) ra_nil))) (re_and (re_call (r_are_rising T) (takes_of rfl rfl rfl rfl) hr (by decide) rfl (ra_cons (re_var (i := 2) rfl (by first | exact .inl rfl | exact .inr (.inl rfl) | exact .inr (.inr rfl))) ra_nil)) (re_one (re_cmp ro_le (re_cb (rcl_len) rfl T.m_len bt_len (ra_cons (re_var (i := 2) rfl (by first | exact .inl rfl | exact .inr (.inl rfl) | exact .inr (.inr rfl))) ra_nil)) (re_glob rfl T.k_MOST_KEYS) rfl)))) (ra_cons re_str ra_nil)))))))
theorem sc_one_shape : FnScope [("rule" : Str), ("family" : Str), ("keys" : Str)] [("rule" : Str), ("family" : Str), ("keys" : Str)] (defScope (top 44)) := ⟨by kernel_rfl, by kernel_rfl, by kernel_rfl, by decide +kernel, by kernel_rfl, by decide +kernel, by decide +kernel⟩
theorem r_one_shape (T : Tx P w K mg base) : Ready P w K mg base 11 "one_shape" (F_one_shape K w) := by
  refine ready_mk (N := [("rule" : Str), ("family" : Str), ("keys" : Str)]) (ps := [("rule" : Str), ("family" : Str), ("keys" : Str)]) (n := 3) (m := 3) (k := 10) T.d_one_shape sc_one_shape rfl rfl (fun _ _ _ _ _ _ us hl => match us, hl with | [_, _, _], _ => rfl) fun cc A outer s H E hcc hr => ?_
  subst hcc
  exact (rss_cons (rs_drop (re_call (r_check_all T) (takes_of rfl rfl rfl rfl) hr (by decide) rfl (ra_cons (re_var (i := 0) rfl (by first | exact .inl rfl | exact .inr (.inl rfl) | exact .inr (.inr rfl))) (ra_cons (re_var (i := 1) rfl (by first | exact .inl rfl | exact .inr (.inl rfl) | exact .inr (.inr rfl))) (ra_cons (re_var (i := 2) rfl (by first | exact .inl rfl | exact .inr (.inl rfl) | exact .inr (.inr rfl))) ra_nil)))))
      (rss_one (rs_ret re_dead)))
theorem sc_always_one : FnScope [("rule" : Str)] [("rule" : Str)] (defScope (top 45)) := ⟨by kernel_rfl, by kernel_rfl, by kernel_rfl, by decide +kernel, by kernel_rfl, by decide +kernel, by decide +kernel⟩
theorem r_always_one (T : Tx P w K mg base) : Ready P w K mg base 7 "always_one" (F_always_one K w) := by
  refine ready_mk (N := [("rule" : Str)]) (ps := [("rule" : Str)]) (n := 1) (m := 1) (k := 6) T.d_always_one sc_always_one rfl rfl (fun _ _ _ _ _ _ us hl => match us, hl with | [_], _ => rfl) fun cc A outer s H E hcc hr => ?_
  subst hcc
  exact (rss_cons (rs_drop (re_call (r_check T) (takes_of rfl rfl rfl rfl) hr (by decide) rfl (ra_cons (re_call (r_is_rule T) (takes_of rfl rfl rfl rfl) hr (by decide) rfl (ra_cons (re_var (i := 0) rfl (by first | exact .inl rfl | exact .inr (.inl rfl) | exact .inr (.inr rfl))) ra_nil)) (ra_cons re_str ra_nil))))
      (rss_one (rs_ret (re_or (re_cmp ro_in (re_ix (re_var (i := 0) rfl (by first | exact .inl rfl | exact .inr (.inl rfl) | exact .inr (.inr rfl))) re_int) (re_tup (ra_cons (re_glob rfl T.k_BITS) (ra_cons (re_glob rfl T.k_STARTS) ra_nil))) rfl) (re_one (re_and (re_cmp (ro_eq hr) (re_ix (re_var (i := 0) rfl (by first | exact .inl rfl | exact .inr (.inl rfl) | exact .inr (.inr rfl))) re_int) (re_glob rfl T.k_RANKS) rfl) (re_one (re_cmp (ro_eq hr) (re_ix (re_var (i := 0) rfl (by first | exact .inl rfl | exact .inr (.inl rfl) | exact .inr (.inr rfl))) re_int) (re_glob rfl T.k_BY_KEY) rfl))))))))
theorem sc__law_taken : FnScope [("row" : Str), ("many" : Str), ("cell" : Str), ("found" : Str)] [("row" : Str), ("many" : Str)] (defScope (top 49)) := ⟨by kernel_rfl, by kernel_rfl, by kernel_rfl, by decide +kernel, by kernel_rfl, by decide +kernel, by decide +kernel⟩
theorem r__law_taken (T : Tx P w K mg base) : Ready P w K mg base 2 "_law_taken" (F__law_taken K w) := by
  refine ready_mk (N := [("row" : Str), ("many" : Str), ("cell" : Str), ("found" : Str)]) (ps := [("row" : Str), ("many" : Str)]) (n := 2) (m := 4) (k := 1) T.d__law_taken sc__law_taken rfl rfl (fun _ _ _ _ _ _ us hl => match us, hl with | [_, _], _ => rfl) fun cc A outer s H E hcc hr => ?_
  subst hcc
  exact (rss_cons (rs_if (rt_cmp ro_gt (re_ix (re_var (i := 0) rfl (by first | exact .inl rfl | exact .inr (.inl rfl) | exact .inr (.inr rfl))) re_int) re_int rfl) (rss_cons (rs_set (i := 3) sc__law_taken.nd rfl (by first | exact .inl rfl | exact .inr rfl) (re_op ro_mod (re_ct (rcl_int) rfl T.m_int bt_int (ra_cons (re_ix (re_var (i := 0) rfl (by first | exact .inl rfl | exact .inr (.inl rfl) | exact .inr (.inr rfl))) re_int) ra_nil)) (re_var (i := 1) rfl (by first | exact .inl rfl | exact .inr (.inl rfl) | exact .inr (.inr rfl)))))
      (rss_cons (rs_asg (re_op ro_div (re_ix (re_var (i := 0) rfl (by first | exact .inl rfl | exact .inr (.inl rfl) | exact .inr (.inr rfl))) re_int) (re_var (i := 1) rfl (by first | exact .inl rfl | exact .inr (.inl rfl) | exact .inr (.inr rfl)))) (rg_sub (re_var (i := 0) rfl (by first | exact .inl rfl | exact .inr (.inl rfl) | exact .inr (.inr rfl))) re_int))
      (rss_one (rs_ret (re_var (i := 3) rfl (by first | exact .inl rfl | exact .inr (.inl rfl) | exact .inr (.inr rfl))))))) rss_nil)
      (rss_cons (rs_asg (re_op ro_add (re_ix (re_var (i := 0) rfl (by first | exact .inl rfl | exact .inr (.inl rfl) | exact .inr (.inr rfl))) re_int) re_int) (rg_sub (re_var (i := 0) rfl (by first | exact .inl rfl | exact .inr (.inl rfl) | exact .inr (.inr rfl))) re_int))
      (rss_cons (rs_if (rt_cmp ro_gt (re_ix (re_var (i := 0) rfl (by first | exact .inl rfl | exact .inr (.inl rfl) | exact .inr (.inr rfl))) re_int) (re_cb (rcl_len) rfl T.m_len bt_len (ra_cons (re_ix (re_var (i := 0) rfl (by first | exact .inl rfl | exact .inr (.inl rfl) | exact .inr (.inr rfl))) re_int) ra_nil)) rfl) (rss_cons (rs_asg (re_op ro_mod (re_ct (rcl_int) rfl T.m_int bt_int (ra_cons (re_op ro_add (re_op ro_mulB (re_ix (re_var (i := 0) rfl (by first | exact .inl rfl | exact .inr (.inl rfl) | exact .inr (.inr rfl))) re_int) re_int) re_int) ra_nil)) re_int) (rg_sub (re_var (i := 0) rfl (by first | exact .inl rfl | exact .inr (.inl rfl) | exact .inr (.inr rfl))) re_int))
      (rss_one (rs_ret (re_op ro_mod (re_ct (rcl_int) rfl T.m_int bt_int (ra_cons (re_op ro_div (re_ix (re_var (i := 0) rfl (by first | exact .inl rfl | exact .inr (.inl rfl) | exact .inr (.inr rfl))) re_int) re_int) ra_nil)) (re_var (i := 1) rfl (by first | exact .inl rfl | exact .inr (.inl rfl) | exact .inr (.inr rfl))))))) rss_nil)
      (rss_cons (rs_set (i := 2) sc__law_taken.nd rfl (by first | exact .inl rfl | exact .inr rfl) (re_ix (re_ix (re_var (i := 0) rfl (by first | exact .inl rfl | exact .inr (.inl rfl) | exact .inr (.inr rfl))) re_int) (re_op ro_sub (re_ix (re_var (i := 0) rfl (by first | exact .inl rfl | exact .inr (.inl rfl) | exact .inr (.inr rfl))) re_int) re_int)))
      (rss_cons (rs_asg (re_op ro_mod (re_ct (rcl_int) rfl T.m_int bt_int (ra_cons (re_op ro_add (re_op ro_add (re_op ro_mulB (re_ix (re_var (i := 0) rfl (by first | exact .inl rfl | exact .inr (.inl rfl) | exact .inr (.inr rfl))) re_int) re_int) (re_var (i := 2) rfl (by first | exact .inl rfl | exact .inr (.inl rfl) | exact .inr (.inr rfl)))) re_int) ra_nil)) re_int) (rg_sub (re_var (i := 0) rfl (by first | exact .inl rfl | exact .inr (.inl rfl) | exact .inr (.inr rfl))) re_int))
      (rss_cons (rs_if (rt_cmp ro_ge (re_var (i := 2) rfl (by first | exact .inl rfl | exact .inr (.inl rfl) | exact .inr (.inr rfl))) (re_op ro_pow re_int re_int) rfl) (rss_one (rs_asg (re_op ro_div (re_var (i := 2) rfl (by first | exact .inl rfl | exact .inr (.inl rfl) | exact .inr (.inr rfl))) (re_var (i := 1) rfl (by first | exact .inl rfl | exact .inr (.inl rfl) | exact .inr (.inr rfl)))) (rg_sub (re_var (i := 0) rfl (by first | exact .inl rfl | exact .inr (.inl rfl) | exact .inr (.inr rfl))) re_int))) rss_nil)
      (rss_one (rs_ret (re_op ro_mod (re_ct (rcl_int) rfl T.m_int bt_int (ra_cons (re_var (i := 2) rfl (by first | exact .inl rfl | exact .inr (.inl rfl) | exact .inr (.inr rfl))) ra_nil)) (re_var (i := 1) rfl (by first | exact .inl rfl | exact .inr (.inl rfl) | exact .inr (.inr rfl))))))))))))
theorem sc__law_pick : FnScope [("row" : Str), ("some" : Str)] [("row" : Str), ("some" : Str)] (defScope (top 50)) := ⟨by kernel_rfl, by kernel_rfl, by kernel_rfl, by decide +kernel, by kernel_rfl, by decide +kernel, by decide +kernel⟩
theorem r__law_pick (T : Tx P w K mg base) : Ready P w K mg base 3 "_law_pick" (F__law_pick K w) := by
  refine ready_mk (N := [("row" : Str), ("some" : Str)]) (ps := [("row" : Str), ("some" : Str)]) (n := 2) (m := 2) (k := 2) T.d__law_pick sc__law_pick rfl rfl (fun _ _ _ _ _ _ us hl => match us, hl with | [_, _], _ => rfl) fun cc A outer s H E hcc hr => ?_
  subst hcc
  exact (rss_one (rs_ret (re_ix (re_var (i := 1) rfl (by first | exact .inl rfl | exact .inr (.inl rfl) | exact .inr (.inr rfl))) (re_call (r__law_taken T) (takes_of rfl rfl rfl rfl) hr (by decide) rfl (ra_cons (re_var (i := 0) rfl (by first | exact .inl rfl | exact .inr (.inl rfl) | exact .inr (.inr rfl))) (ra_cons (re_cb (rcl_len) rfl T.m_len bt_len (ra_cons (re_var (i := 1) rfl (by first | exact .inl rfl | exact .inr (.inl rfl) | exact .inr (.inr rfl))) ra_nil)) ra_nil))))))
theorem sc__law_family : FnScope [("row" : Str)] [("row" : Str)] (defScope (top 51)) := ⟨by kernel_rfl, by kernel_rfl, by kernel_rfl, by decide +kernel, by kernel_rfl, by decide +kernel, by decide +kernel⟩
theorem r__law_family (T : Tx P w K mg base) : Ready P w K mg base 4 "_law_family" (F__law_family K w) := by
  refine ready_mk (N := [("row" : Str)]) (ps := [("row" : Str)]) (n := 1) (m := 1) (k := 3) T.d__law_family sc__law_family rfl rfl (fun _ _ _ _ _ _ us hl => match us, hl with | [_], _ => rfl) fun cc A outer s H E hcc hr => ?_
  subst hcc
  exact (rss_one (rs_ret (re_call (r__law_pick T) (takes_of rfl rfl rfl rfl) hr (by decide) rfl (ra_cons (re_var (i := 0) rfl (by first | exact .inl rfl | exact .inr (.inl rfl) | exact .inr (.inr rfl))) (ra_cons (re_lst (ra_cons re_str (ra_cons re_str ra_nil))) ra_nil)))))
theorem sc__law_ranks : FnScope [("row" : Str), ("turn" : Str)] [("row" : Str)] (defScope (top 52)) := ⟨by kernel_rfl, by kernel_rfl, by kernel_rfl, by decide +kernel, by kernel_rfl, by decide +kernel, by decide +kernel⟩
theorem r__law_ranks (T : Tx P w K mg base) : Ready P w K mg base 4 "_law_ranks" (F__law_ranks K w) := by
  refine ready_mk (N := [("row" : Str), ("turn" : Str)]) (ps := [("row" : Str)]) (n := 1) (m := 2) (k := 3) T.d__law_ranks sc__law_ranks rfl rfl (fun _ _ _ _ _ _ us hl => match us, hl with | [_], _ => rfl) fun cc A outer s H E hcc hr => ?_
  subst hcc
  exact (rss_one (rs_ret (re_tupOf rfl T.m_tuple (re_lc (tg := .nm 1) (own := [(("turn" : Str), 1)]) rfl sc__law_ranks.nd (ri_rng1 rfl T.m_range (ra_cons (re_op ro_add re_int (re_call (r__law_taken T) (takes_of rfl rfl rfl rfl) hr (by decide) rfl (ra_cons (re_var (i := 0) rfl (by first | exact .inl rfl | exact .inr (.inl rfl) | exact .inr (.inr rfl))) (ra_cons (re_call (r__law_pick T) (takes_of rfl rfl rfl rfl) hr (by decide) rfl (ra_cons (re_var (i := 0) rfl (by first | exact .inl rfl | exact .inr (.inl rfl) | exact .inr (.inr rfl))) (ra_cons (re_lst (ra_cons re_int (ra_cons re_int (ra_cons re_int ra_nil)))) ra_nil))) ra_nil)))) ra_nil)) (by kernel_rfl) (by kernel_rfl) (fun _ _ _ _ _ => pg_name (i := 1) sc__law_ranks.nd rfl (.inl rfl)) (fun _ _ _ _ _ => (re_call (r__law_taken T) LamX.takes0 hr (by decide) rfl (ra_cons (re_var (i := 0) rfl (by first | exact .inl rfl | exact .inr (.inl rfl) | exact .inr (.inr rfl))) (ra_cons (re_call (r__law_pick T) LamX.takes0 hr (by decide) rfl (ra_cons (re_var (i := 0) rfl (by first | exact .inl rfl | exact .inr (.inl rfl) | exact .inr (.inr rfl))) (ra_cons (re_lst (ra_cons re_int (ra_cons re_int (ra_cons re_int ra_nil)))) ra_nil))) ra_nil))))))))
theorem sc__law_rule : FnScope [("row" : Str), ("kind" : Str)] [("row" : Str)] (defScope (top 53)) := ⟨by kernel_rfl, by kernel_rfl, by kernel_rfl, by decide +kernel, by kernel_rfl, by decide +kernel, by decide +kernel⟩
theorem r__law_rule (T : Tx P w K mg base) : Ready P w K mg base 5 "_law_rule" (F__law_rule K w) := by
  refine ready_mk (N := [("row" : Str), ("kind" : Str)]) (ps := [("row" : Str)]) (n := 1) (m := 2) (k := 4) T.d__law_rule sc__law_rule rfl rfl (fun _ _ _ _ _ _ us hl => match us, hl with | [_], _ => rfl) fun cc A outer s H E hcc hr => ?_
  subst hcc
  exact (rss_cons (rs_set (i := 1) sc__law_rule.nd rfl (by first | exact .inl rfl | exact .inr rfl) (re_call (r__law_taken T) (takes_of rfl rfl rfl rfl) hr (by decide) rfl (ra_cons (re_var (i := 0) rfl (by first | exact .inl rfl | exact .inr (.inl rfl) | exact .inr (.inr rfl))) (ra_cons re_int ra_nil))))
      (rss_cons (rs_if (rt_cmp (ro_lt hr) (re_var (i := 1) rfl (by first | exact .inl rfl | exact .inr (.inl rfl) | exact .inr (.inr rfl))) re_int rfl) (rss_one (rs_ret (re_tup (ra_cons re_str (ra_cons (re_call (r__law_ranks T) (takes_of rfl rfl rfl rfl) hr (by decide) rfl (ra_cons (re_var (i := 0) rfl (by first | exact .inl rfl | exact .inr (.inl rfl) | exact .inr (.inr rfl))) ra_nil)) (ra_cons (re_ix (re_tup (ra_cons re_str (ra_cons re_str ra_nil))) (re_var (i := 1) rfl (by first | exact .inl rfl | exact .inr (.inl rfl) | exact .inr (.inr rfl)))) ra_nil)))))) rss_nil)
      (rss_cons (rs_if (rt_cmp (ro_eq hr) (re_var (i := 1) rfl (by first | exact .inl rfl | exact .inr (.inl rfl) | exact .inr (.inr rfl))) re_int rfl) (rss_one (rs_ret (re_tup (ra_cons re_str (ra_cons (re_op ro_add re_int (re_call (r__law_taken T) (takes_of rfl rfl rfl rfl) hr (by decide) rfl (ra_cons (re_var (i := 0) rfl (by first | exact .inl rfl | exact .inr (.inl rfl) | exact .inr (.inr rfl))) (ra_cons re_int ra_nil)))) ra_nil))))) rss_nil)
      (rss_one (rs_ret (re_tup (ra_cons (re_ix (re_tup (ra_cons re_str (ra_cons re_str (ra_cons re_str (ra_cons re_str ra_nil))))) (re_op ro_sub (re_var (i := 1) rfl (by first | exact .inl rfl | exact .inr (.inl rfl) | exact .inr (.inr rfl))) re_int)) ra_nil)))))))
theorem sc__law_word : FnScope [("row" : Str), ("signs" : Str), ("many" : Str), ("turn" : Str)] [("row" : Str)] (defScope (top 54)) := ⟨by kernel_rfl, by kernel_rfl, by kernel_rfl, by decide +kernel, by kernel_rfl, by decide +kernel, by decide +kernel⟩
theorem r__law_word (T : Tx P w K mg base) : Ready P w K mg base 4 "_law_word" (F__law_word K w) := by
  refine ready_mk (N := [("row" : Str), ("signs" : Str), ("many" : Str), ("turn" : Str)]) (ps := [("row" : Str)]) (n := 1) (m := 4) (k := 3) T.d__law_word sc__law_word rfl rfl (fun _ _ _ _ _ _ us hl => match us, hl with | [_], _ => rfl) fun cc A outer s H E hcc hr => ?_
  subst hcc
  exact (rss_cons (rs_set (i := 1) sc__law_word.nd rfl (by first | exact .inl rfl | exact .inr rfl) (re_call (r__law_pick T) (takes_of rfl rfl rfl rfl) hr (by decide) rfl (ra_cons (re_var (i := 0) rfl (by first | exact .inl rfl | exact .inr (.inl rfl) | exact .inr (.inr rfl))) (ra_cons (re_lst (ra_cons re_str (ra_cons re_str (ra_cons re_str (ra_cons re_str (ra_cons re_str (ra_cons re_str ra_nil))))))) ra_nil))))
      (rss_cons (rs_set (i := 2) sc__law_word.nd rfl (by first | exact .inl rfl | exact .inr rfl) (re_op ro_add re_int (re_call (r__law_taken T) (takes_of rfl rfl rfl rfl) hr (by decide) rfl (ra_cons (re_var (i := 0) rfl (by first | exact .inl rfl | exact .inr (.inl rfl) | exact .inr (.inr rfl))) (ra_cons (re_call (r__law_pick T) (takes_of rfl rfl rfl rfl) hr (by decide) rfl (ra_cons (re_var (i := 0) rfl (by first | exact .inl rfl | exact .inr (.inl rfl) | exact .inr (.inr rfl))) (ra_cons (re_lst (ra_cons re_int (ra_cons re_int (ra_cons re_int (ra_cons re_int ra_nil))))) ra_nil))) ra_nil)))))
      (rss_one (rs_ret (re_join re_str (re_lc (tg := .nm 3) (own := [(("turn" : Str), 3)]) rfl sc__law_word.nd (ri_rng1 rfl T.m_range (ra_cons (re_var (i := 2) rfl (by first | exact .inl rfl | exact .inr (.inl rfl) | exact .inr (.inr rfl))) ra_nil)) (by kernel_rfl) (by kernel_rfl) (fun _ _ _ _ _ => pg_name (i := 3) sc__law_word.nd rfl (.inl rfl)) (fun _ _ _ _ _ => (re_call (r__law_pick T) LamX.takes0 hr (by decide) rfl (ra_cons (re_var (i := 0) rfl (by first | exact .inl rfl | exact .inr (.inl rfl) | exact .inr (.inr rfl))) (ra_cons (re_var (i := 1) rfl (by first | exact .inl rfl | exact .inr (.inl rfl) | exact .inr (.inr rfl))) ra_nil))))))))))
theorem sc__law_key : FnScope [("row" : Str), ("family" : Str), ("wide" : Str)] [("row" : Str), ("family" : Str)] (defScope (top 55)) := ⟨by kernel_rfl, by kernel_rfl, by kernel_rfl, by decide +kernel, by kernel_rfl, by decide +kernel, by decide +kernel⟩
theorem r__law_key (T : Tx P w K mg base) : Ready P w K mg base 5 "_law_key" (F__law_key K w) := by
  refine ready_mk (N := [("row" : Str), ("family" : Str), ("wide" : Str)]) (ps := [("row" : Str), ("family" : Str)]) (n := 2) (m := 3) (k := 4) T.d__law_key sc__law_key rfl rfl (fun _ _ _ _ _ _ us hl => match us, hl with | [_, _], _ => rfl) fun cc A outer s H E hcc hr => ?_
  subst hcc
  exact (rss_cons (rs_if (rt_cmp (ro_eq hr) (re_var (i := 1) rfl (by first | exact .inl rfl | exact .inr (.inl rfl) | exact .inr (.inr rfl))) re_str rfl) (rss_one (rs_ret (re_call (r__law_word T) (takes_of rfl rfl rfl rfl) hr (by decide) rfl (ra_cons (re_var (i := 0) rfl (by first | exact .inl rfl | exact .inr (.inl rfl) | exact .inr (.inr rfl))) ra_nil)))) rss_nil)
      (rss_cons (rs_set (i := 2) sc__law_key.nd rfl (by first | exact .inl rfl | exact .inr rfl) (re_call (r__law_pick T) (takes_of rfl rfl rfl rfl) hr (by decide) rfl (ra_cons (re_var (i := 0) rfl (by first | exact .inl rfl | exact .inr (.inl rfl) | exact .inr (.inr rfl))) (ra_cons (re_lst (ra_cons re_int (ra_cons re_int (ra_cons re_int (ra_cons re_int ra_nil))))) ra_nil))))
      (rss_one (rs_ret (re_op ro_mod (re_op ro_mulB (re_call (r__law_taken T) (takes_of rfl rfl rfl rfl) hr (by decide) rfl (ra_cons (re_var (i := 0) rfl (by first | exact .inl rfl | exact .inr (.inl rfl) | exact .inr (.inr rfl))) (ra_cons (re_var (i := 2) rfl (by first | exact .inl rfl | exact .inr (.inl rfl) | exact .inr (.inr rfl))) ra_nil))) (re_call (r__law_pick T) (takes_of rfl rfl rfl rfl) hr (by decide) rfl (ra_cons (re_var (i := 0) rfl (by first | exact .inl rfl | exact .inr (.inl rfl) | exact .inr (.inr rfl))) (ra_cons (re_lst (ra_cons re_int (ra_cons re_int (ra_cons re_int (ra_cons re_int ra_nil))))) ra_nil)))) re_int)))))
theorem sc__law_alike : FnScope [("found" : Str), ("due" : Str), ("k" : Str), ("key" : Str)] [("found" : Str), ("due" : Str)] (defScope (top 56)) := ⟨by kernel_rfl, by kernel_rfl, by kernel_rfl, by decide +kernel, by kernel_rfl, by decide +kernel, by decide +kernel⟩
theorem r__law_alike (T : Tx P w K mg base) : ∀ n : Nat, Ready P w K mg base (n + 2) "_law_alike" (F__law_alike K w n)
  | 0 => ready_bad (ps := [("found" : Str), ("due" : Str)]) T.d__law_alike (fun _ _ _ _ _ _ us hl => match us, hl with | [_, _], _ => rfl)
  | n + 1 => by
    have ih := r__law_alike T n
    refine ready_mk (N := [("found" : Str), ("due" : Str), ("k" : Str), ("key" : Str)]) (ps := [("found" : Str), ("due" : Str)]) (n := 2) (m := 4) (k := n + 2) T.d__law_alike sc__law_alike rfl rfl (fun _ _ _ _ _ _ us hl => match us, hl with | [_, _], _ => rfl) fun cc A outer s H E hcc hr => ?_
    subst hcc
    exact (rss_cons (rs_if (rt_val (re_isi2 rfl T.m_isinstance (re_var (i := 1) rfl (by first | exact .inl rfl | exact .inr (.inl rfl) | exact .inr (.inr rfl))) rfl T.m_tuple bt_tuple rfl T.m_list bt_list)) (rss_cons (rs_if (rt_w (rw_or (rt_not (rt_val (re_isi2 rfl T.m_isinstance (re_var (i := 0) rfl (by first | exact .inl rfl | exact .inr (.inl rfl) | exact .inr (.inr rfl))) rfl T.m_tuple bt_tuple rfl T.m_list bt_list))) (rw_or1 (rt_cmp (ro_ne hr) (re_isi rfl T.m_isinstance (re_var (i := 0) rfl (by first | exact .inl rfl | exact .inr (.inl rfl) | exact .inr (.inr rfl))) rfl T.m_list bt_list) (re_isi rfl T.m_isinstance (re_var (i := 1) rfl (by first | exact .inl rfl | exact .inr (.inl rfl) | exact .inr (.inr rfl))) rfl T.m_list bt_list) rfl)))) (rss_one (rs_ret re_bl)) rss_nil)
      (rss_cons (rs_if (rt_cmp (ro_ne hr) (re_cb (rcl_len) rfl T.m_len bt_len (ra_cons (re_var (i := 0) rfl (by first | exact .inl rfl | exact .inr (.inl rfl) | exact .inr (.inr rfl))) ra_nil)) (re_cb (rcl_len) rfl T.m_len bt_len (ra_cons (re_var (i := 1) rfl (by first | exact .inl rfl | exact .inr (.inl rfl) | exact .inr (.inr rfl))) ra_nil)) rfl) (rss_one (rs_ret re_bl)) rss_nil)
      (rss_one (rs_ret (re_cmp (ro_eq hr) (re_lcIf (tg := .nm 2) (own := [(("k" : Str), 2)]) rfl sc__law_alike.nd (ri_rng1 rfl T.m_range (ra_cons (re_cb (rcl_len) rfl T.m_len bt_len (ra_cons (re_var (i := 1) rfl (by first | exact .inl rfl | exact .inr (.inl rfl) | exact .inr (.inr rfl))) ra_nil)) ra_nil)) (by kernel_rfl) (by kernel_rfl) (fun _ _ _ _ _ => pg_name (i := 2) sc__law_alike.nd rfl (.inl rfl)) (fun _ _ _ _ _ => (rt_not (rt_val (re_call ih LamX.takes0 hr (by omega) rfl (ra_cons (re_ix (re_var (i := 0) rfl (by first | exact .inl rfl | exact .inr (.inl rfl) | exact .inr (.inr rfl))) (re_var (i := 2) rfl (by first | exact .inl rfl | exact .inr (.inl rfl) | exact .inr (.inr rfl)))) (ra_cons (re_ix (re_var (i := 1) rfl (by first | exact .inl rfl | exact .inr (.inl rfl) | exact .inr (.inr rfl))) (re_var (i := 2) rfl (by first | exact .inl rfl | exact .inr (.inl rfl) | exact .inr (.inr rfl)))) ra_nil)))))) (fun _ _ _ _ _ => (re_var (i := 2) rfl (by first | exact .inl rfl | exact .inr (.inl rfl) | exact .inr (.inr rfl))))) (re_lst ra_nil) rfl))))) rss_nil)
      (rss_cons (rs_if (rt_val (re_isi rfl T.m_isinstance (re_var (i := 1) rfl (by first | exact .inl rfl | exact .inr (.inl rfl) | exact .inr (.inr rfl))) rfl T.m_dict bt_dict)) rss_dead rss_nil)
      (rss_cons (rs_if (rt_w (rw_or (rt_cmp ro_is (re_var (i := 1) rfl (by first | exact .inl rfl | exact .inr (.inl rfl) | exact .inr (.inr rfl))) re_non rfl) (rw_or1 (rt_val (re_isi rfl T.m_isinstance (re_var (i := 1) rfl (by first | exact .inl rfl | exact .inr (.inl rfl) | exact .inr (.inr rfl))) rfl T.m_str bt_str))))) (rss_one (rs_ret (re_and (re_cmp (ro_eq hr) (re_var (i := 0) rfl (by first | exact .inl rfl | exact .inr (.inl rfl) | exact .inr (.inr rfl))) (re_var (i := 1) rfl (by first | exact .inl rfl | exact .inr (.inl rfl) | exact .inr (.inr rfl))) rfl) (re_one (re_cmp (ro_eq hr) (re_isi rfl T.m_isinstance (re_var (i := 0) rfl (by first | exact .inl rfl | exact .inr (.inl rfl) | exact .inr (.inr rfl))) rfl T.m_str bt_str) (re_isi rfl T.m_isinstance (re_var (i := 1) rfl (by first | exact .inl rfl | exact .inr (.inl rfl) | exact .inr (.inr rfl))) rfl T.m_str bt_str) rfl))))) rss_nil)
      (rss_one (rs_ret (re_and (re_isi rfl T.m_isinstance (re_var (i := 0) rfl (by first | exact .inl rfl | exact .inr (.inl rfl) | exact .inr (.inr rfl))) rfl T.m_int bt_int) (re_and (re_cmp (ro_eq hr) (re_isi rfl T.m_isinstance (re_var (i := 0) rfl (by first | exact .inl rfl | exact .inr (.inl rfl) | exact .inr (.inr rfl))) rfl T.m_bool bt_bool) (re_isi rfl T.m_isinstance (re_var (i := 1) rfl (by first | exact .inl rfl | exact .inr (.inl rfl) | exact .inr (.inr rfl))) rfl T.m_bool bt_bool) rfl) (re_one (re_cmp (ro_eq hr) (re_var (i := 0) rfl (by first | exact .inl rfl | exact .inr (.inl rfl) | exact .inr (.inr rfl))) (re_var (i := 1) rfl (by first | exact .inl rfl | exact .inr (.inl rfl) | exact .inr (.inr rfl))) rfl)))))))))
theorem sc__law_letters : FnScope [("family" : Str), ("key" : Str), ("size" : Str), ("sign" : Str)] [("family" : Str), ("key" : Str)] (defScope (top 57)) := ⟨by kernel_rfl, by kernel_rfl, by kernel_rfl, by decide +kernel, by kernel_rfl, by decide +kernel, by decide +kernel⟩
theorem r__law_letters (T : Tx P w K mg base) : Ready P w K mg base 2 "_law_letters" (F__law_letters K w) := by
  refine ready_mk (N := [("family" : Str), ("key" : Str), ("size" : Str), ("sign" : Str)]) (ps := [("family" : Str), ("key" : Str)]) (n := 2) (m := 4) (k := 1) T.d__law_letters sc__law_letters rfl rfl (fun _ _ _ _ _ _ us hl => match us, hl with | [_, _], _ => rfl) fun cc A outer s H E hcc hr => ?_
  subst hcc
  exact (rss_cons (rs_if (rt_cmp (ro_eq hr) (re_var (i := 0) rfl (by first | exact .inl rfl | exact .inr (.inl rfl) | exact .inr (.inr rfl))) re_str rfl) (rss_one (rs_ret (re_tupOf rfl T.m_tuple (re_lc (tg := .nm 2) (own := [(("size" : Str), 2)]) rfl sc__law_letters.nd (ri_seq (re_tup (ra_cons re_int (ra_cons re_int (ra_cons re_int (ra_cons re_int ra_nil)))))) (by kernel_rfl) (by kernel_rfl) (fun _ _ _ _ _ => pg_name (i := 2) sc__law_letters.nd rfl (.inl rfl)) (fun _ _ _ _ _ => (re_op ro_mod (re_op ro_div (re_var (i := 1) rfl (by first | exact .inl rfl | exact .inr (.inl rfl) | exact .inr (.inr rfl))) (re_var (i := 2) rfl (by first | exact .inl rfl | exact .inr (.inl rfl) | exact .inr (.inr rfl)))) re_int)))))) rss_nil)
      (rss_one (rs_ret (re_op ro_add (re_tupOf rfl T.m_tuple (re_lc (tg := .nm 3) (own := [(("sign" : Str), 3)]) rfl sc__law_letters.nd (ri_seq (re_var (i := 1) rfl (by first | exact .inl rfl | exact .inr (.inl rfl) | exact .inr (.inr rfl)))) (by kernel_rfl) (by kernel_rfl) (fun _ _ _ _ _ => pg_name (i := 3) sc__law_letters.nd rfl (.inl rfl)) (fun _ _ _ _ _ => (re_op ro_add (re_idx re_str (re_var (i := 3) rfl (by first | exact .inl rfl | exact .inr (.inl rfl) | exact .inr (.inr rfl)))) re_int)))) (re_tup (ra_cons re_int ra_nil))))))
theorem sc__law_rank : FnScope [("rule" : Str), ("family" : Str), ("key" : Str), ("letters" : Str), ("total" : Str), ("k" : Str)] [("rule" : Str), ("family" : Str), ("key" : Str)] (defScope (top 58)) := ⟨by kernel_rfl, by kernel_rfl, by kernel_rfl, by decide +kernel, by kernel_rfl, by decide +kernel, by decide +kernel⟩
theorem r__law_rank (T : Tx P w K mg base) : Ready P w K mg base 3 "_law_rank" (F__law_rank K w) := by
  refine ready_mk (N := [("rule" : Str), ("family" : Str), ("key" : Str), ("letters" : Str), ("total" : Str), ("k" : Str)]) (ps := [("rule" : Str), ("family" : Str), ("key" : Str)]) (n := 3) (m := 6) (k := 2) T.d__law_rank sc__law_rank rfl rfl (fun _ _ _ _ _ _ us hl => match us, hl with | [_, _, _], _ => rfl) fun cc A outer s H E hcc hr => ?_
  subst hcc
  exact (rss_cons (rs_set (i := 3) sc__law_rank.nd rfl (by first | exact .inl rfl | exact .inr rfl) (re_call (r__law_letters T) (takes_of rfl rfl rfl rfl) hr (by decide) rfl (ra_cons (re_var (i := 1) rfl (by first | exact .inl rfl | exact .inr (.inl rfl) | exact .inr (.inr rfl))) (ra_cons (re_var (i := 2) rfl (by first | exact .inl rfl | exact .inr (.inl rfl) | exact .inr (.inr rfl))) ra_nil))))
      (rss_cons (rs_set (i := 4) sc__law_rank.nd rfl (by first | exact .inl rfl | exact .inr rfl) re_int)
      (rss_cons (rs_for (passes_of rfl) rfl (ri_rng1 rfl T.m_range (ra_cons (re_cb (rcl_len) rfl T.m_len bt_len (ra_cons (re_var (i := 3) rfl (by first | exact .inl rfl | exact .inr (.inl rfl) | exact .inr (.inr rfl))) ra_nil)) ra_nil)) (rg_name (i := 5) sc__law_rank.nd rfl (by first | exact .inl rfl | exact .inr rfl)) (rss_one (rs_set (i := 4) sc__law_rank.nd rfl (by first | exact .inl rfl | exact .inr rfl) (re_op ro_add (re_var (i := 4) rfl (by first | exact .inl rfl | exact .inr (.inl rfl) | exact .inr (.inr rfl))) (re_op ro_mulB (re_ix (re_var (i := 3) rfl (by first | exact .inl rfl | exact .inr (.inl rfl) | exact .inr (.inr rfl))) (re_var (i := 5) rfl (by first | exact .inl rfl | exact .inr (.inl rfl) | exact .inr (.inr rfl)))) (re_op ro_add (re_var (i := 5) rfl (by first | exact .inl rfl | exact .inr (.inl rfl) | exact .inr (.inr rfl))) re_int))))))
      (rss_one (rs_ret (re_ix (re_ix (re_var (i := 0) rfl (by first | exact .inl rfl | exact .inr (.inl rfl) | exact .inr (.inr rfl))) re_int) (re_op ro_mod (re_var (i := 4) rfl (by first | exact .inl rfl | exact .inr (.inl rfl) | exact .inr (.inr rfl))) (re_cb (rcl_len) rfl T.m_len bt_len (ra_cons (re_ix (re_var (i := 0) rfl (by first | exact .inl rfl | exact .inr (.inl rfl) | exact .inr (.inr rfl))) re_int) ra_nil)))))))))
theorem sc__law_no_rule : FnScope [("row" : Str), ("some" : Str)] [("row" : Str)] (defScope (top 59)) := ⟨by kernel_rfl, by kernel_rfl, by kernel_rfl, by decide +kernel, by kernel_rfl, by decide +kernel, by decide +kernel⟩
theorem r__law_no_rule (T : Tx P w K mg base) : Ready P w K mg base 4 "_law_no_rule" (F__law_no_rule K w) := by
  refine ready_mk (N := [("row" : Str), ("some" : Str)]) (ps := [("row" : Str)]) (n := 1) (m := 2) (k := 3) T.d__law_no_rule sc__law_no_rule rfl rfl (fun _ _ _ _ _ _ us hl => match us, hl with | [_], _ => rfl) fun cc A outer s H E hcc hr => ?_
  subst hcc
  exact (rss_cons (rs_set (i := 1) sc__law_no_rule.nd rfl (by first | exact .inl rfl | exact .inr rfl) (re_lst (ra_cons re_non (ra_cons (re_tup ra_nil) (ra_cons re_str (ra_cons (re_lst (ra_cons re_str ra_nil)) (ra_cons (re_tup (ra_cons re_str (ra_cons re_int ra_nil))) (ra_cons (re_tup (ra_cons re_str (ra_cons (re_tup ra_nil) ra_nil))) (ra_cons (re_tup (ra_cons re_str ra_nil)) (ra_cons (re_tup (ra_cons re_str (ra_cons re_int ra_nil))) (ra_cons (re_tup (ra_cons re_str (ra_cons re_int ra_nil))) (ra_cons (re_tup (ra_cons re_str (ra_cons re_bl ra_nil))) (ra_cons (re_tup (ra_cons re_str ra_nil)) (ra_cons (re_tup (ra_cons re_int ra_nil)) ra_nil))))))))))))))
      (rss_cons (rs_set (i := 1) sc__law_no_rule.nd rfl (by first | exact .inl rfl | exact .inr rfl) (re_op ro_add (re_var (i := 1) rfl (by first | exact .inl rfl | exact .inr (.inl rfl) | exact .inr (.inr rfl))) (re_lst (ra_cons (re_tup (ra_cons re_str (ra_cons (re_tup ra_nil) (ra_cons re_str ra_nil)))) (ra_cons (re_tup (ra_cons re_str (ra_cons (re_op ro_mulB (re_tup (ra_cons re_int ra_nil)) re_int) (ra_cons re_str ra_nil)))) (ra_cons (re_tup (ra_cons re_str (ra_cons (re_tup (ra_cons re_int ra_nil)) (ra_cons re_str ra_nil)))) (ra_cons (re_tup (ra_cons re_str (ra_cons (re_tup (ra_cons (re_neg re_int) ra_nil)) (ra_cons re_str ra_nil)))) (ra_cons (re_tup (ra_cons re_str (ra_cons (re_lst (ra_cons re_int ra_nil)) (ra_cons re_str ra_nil)))) ra_nil))))))))
      (rss_one (rs_ret (re_call (r__law_pick T) (takes_of rfl rfl rfl rfl) hr (by decide) rfl (ra_cons (re_var (i := 0) rfl (by first | exact .inl rfl | exact .inr (.inl rfl) | exact .inr (.inr rfl))) (ra_cons (re_op ro_add (re_var (i := 1) rfl (by first | exact .inl rfl | exact .inr (.inl rfl) | exact .inr (.inr rfl))) (re_lst (ra_cons (re_tup (ra_cons re_str (ra_cons (re_tup (ra_cons re_int ra_nil)) (ra_cons re_str ra_nil)))) (ra_cons (re_tup (ra_cons re_str (ra_cons (re_tup (ra_cons re_int ra_nil)) (ra_cons re_str (ra_cons re_int ra_nil))))) (ra_cons (re_tup (ra_cons re_str (ra_cons (re_tup (ra_cons re_bl ra_nil)) (ra_cons re_str ra_nil)))) (ra_cons (re_tup (ra_cons re_str (ra_cons (re_tup (ra_cons re_int ra_nil)) (ra_cons re_non ra_nil)))) ra_nil)))))) ra_nil)))))))
theorem sc_Grove___init__ : FnScope [("self" : Str), ("rule" : Str), ("family" : Str)] [("self" : Str), ("rule" : Str), ("family" : Str)] (defScope (cm (top 47) 0)) := ⟨by kernel_rfl, by kernel_rfl, by kernel_rfl, by decide +kernel, by kernel_rfl, by decide +kernel, by decide +kernel⟩
theorem r_Grove___init__ (T : Tx P w K mg base) : ReadyC P w K mg base 7 (He.ga K "Grove") "Grove" (F_Grove___init__ K w) := by
  refine ready_ctor (N := [("self" : Str), ("rule" : Str), ("family" : Str)]) (ps := [("self" : Str), ("rule" : Str), ("family" : Str)]) (n := 3) (i := 3) (k := 6) T.d_Grove___init__ T.mk_Grove T.g_Grove sc_Grove___init__ rfl rfl (fun _ _ _ _ _ _ us hl => match us, hl with | [_, _, _], _ => rfl) fun cc A outer s H E hcc hr => ?_
  subst hcc
  exact (rss_cons (rs_drop (re_call (r_check T) (takes_of rfl rfl rfl rfl) hr (by decide) rfl (ra_cons (re_call (r_is_rule T) (takes_of rfl rfl rfl rfl) hr (by decide) rfl (ra_cons (re_var (i := 1) rfl (by first | exact .inl rfl | exact .inr (.inl rfl) | exact .inr (.inr rfl))) ra_nil)) (ra_cons re_str ra_nil))))
      (rss_cons (rs_drop (re_call (r_check T) (takes_of rfl rfl rfl rfl) hr (by decide) rfl (ra_cons (re_call (r_is_family T) (takes_of rfl rfl rfl rfl) hr (by decide) rfl (ra_cons (re_var (i := 2) rfl (by first | exact .inl rfl | exact .inr (.inl rfl) | exact .inr (.inr rfl))) ra_nil)) (ra_cons re_str ra_nil))))
      (rss_cons (rs_fld T.c_Grove T.n_Grove__rule (re_var (i := 0) rfl (by first | exact .inl rfl | exact .inr (.inl rfl) | exact .inr (.inr rfl))) (re_var (i := 1) rfl (by first | exact .inl rfl | exact .inr (.inl rfl) | exact .inr (.inr rfl))))
      (rss_cons (rs_fld T.c_Grove T.n_Grove__family (re_var (i := 0) rfl (by first | exact .inl rfl | exact .inr (.inl rfl) | exact .inr (.inr rfl))) (re_var (i := 2) rfl (by first | exact .inl rfl | exact .inr (.inl rfl) | exact .inr (.inr rfl))))
      (rss_cons (rs_fld T.c_Grove T.n_Grove__nodes (re_var (i := 0) rfl (by first | exact .inl rfl | exact .inr (.inl rfl) | exact .inr (.inr rfl))) (re_new ra_nil))
      (rss_cons (rs_fld T.c_Grove T.n_Grove__numbers (re_var (i := 0) rfl (by first | exact .inl rfl | exact .inr (.inl rfl) | exact .inr (.inr rfl))) re_dic)
      (rss_cons (rs_fld T.c_Grove T.n_Grove__many (re_var (i := 0) rfl (by first | exact .inl rfl | exact .inr (.inl rfl) | exact .inr (.inr rfl))) (re_new ra_nil))
      (rss_one (rs_fld T.c_Grove T.n_Grove__heights (re_var (i := 0) rfl (by first | exact .inl rfl | exact .inr (.inl rfl) | exact .inr (.inr rfl))) (re_new ra_nil))))))))))
theorem sc__law_refused : FnScope [("row" : Str), ("family" : Str), ("rule" : Str), ("key" : Str), ("ranked" : Str), ("bad" : Str), ("heard" : Str), ("wrong" : Str), ("keys" : Str)] [("row" : Str), ("family" : Str), ("rule" : Str), ("key" : Str), ("ranked" : Str)] (defScope (top 61)) := ⟨by kernel_rfl, by kernel_rfl, by kernel_rfl, by decide +kernel, by kernel_rfl, by decide +kernel, by decide +kernel⟩
theorem r__law_refused (T : Tx P w K mg base) : Ready P w K mg base 14 "_law_refused" (F__law_refused K w) := by
  refine ready_mk (N := [("row" : Str), ("family" : Str), ("rule" : Str), ("key" : Str), ("ranked" : Str), ("bad" : Str), ("heard" : Str), ("wrong" : Str), ("keys" : Str)]) (ps := [("row" : Str), ("family" : Str), ("rule" : Str), ("key" : Str), ("ranked" : Str)]) (n := 5) (m := 9) (k := 13) T.d__law_refused sc__law_refused rfl rfl (fun _ _ _ _ _ _ us hl => match us, hl with | [_, _, _, _, _], _ => rfl) fun cc A outer s H E hcc hr => ?_
  subst hcc
  exact (rss_cons (rs_set (i := 5) sc__law_refused.nd rfl (by first | exact .inl rfl | exact .inr rfl) (re_call (r__law_no_rule T) (takes_of rfl rfl rfl rfl) hr (by decide) rfl (ra_cons (re_var (i := 0) rfl (by first | exact .inl rfl | exact .inr (.inl rfl) | exact .inr (.inr rfl))) ra_nil)))
      (rss_cons (rs_set (i := 6) sc__law_refused.nd rfl (by first | exact .inl rfl | exact .inr rfl) (re_lst (ra_cons (re_lamH (k := 10) (n := 4) (T := tb K 4) (q := "_law_refused.<locals>.<lambda>") (CB := CB K) (CR := CR K) T.heard rfl (T.tab 4) rfl (by kernel_rfl) hr (by decide) (LamX.lamS_by (by kernel_rfl)) rfl (fun _ _ _ _ _ => rfl) (fun _ _ _ _ _ _ _ hr => (re_call (r_rank_of T) (takes_of rfl rfl rfl rfl) hr (by decide) rfl (ra_cons (re_var (i := 5) rfl (by first | exact .inl rfl | exact .inr (.inl rfl) | exact .inr (.inr rfl))) (ra_cons re_non (ra_cons re_non ra_nil)))))) (ra_cons (re_lamH (k := 7) (n := 4) (T := tb K 4) (q := "_law_refused.<locals>.<lambda>") (CB := CB K) (CR := CR K) T.heard rfl (T.tab 4) rfl (by kernel_rfl) hr (by decide) (LamX.lamS_by (by kernel_rfl)) rfl (fun _ _ _ _ _ => rfl) (fun _ _ _ _ _ _ _ hr => (re_call (r_always_one T) (takes_of rfl rfl rfl rfl) hr (by decide) rfl (ra_cons (re_var (i := 5) rfl (by first | exact .inl rfl | exact .inr (.inl rfl) | exact .inr (.inr rfl))) ra_nil)))) (ra_cons (re_lamH (k := 11) (n := 4) (T := tb K 4) (q := "_law_refused.<locals>.<lambda>") (CB := CB K) (CR := CR K) T.heard rfl (T.tab 4) rfl (by kernel_rfl) hr (by decide) (LamX.lamS_by (by kernel_rfl)) rfl (fun _ _ _ _ _ => rfl) (fun _ _ _ _ _ _ _ hr => (re_call (r_one_shape T) (takes_of rfl rfl rfl rfl) hr (by decide) rfl (ra_cons (re_var (i := 5) rfl (by first | exact .inl rfl | exact .inr (.inl rfl) | exact .inr (.inr rfl))) (ra_cons re_non (ra_cons re_non ra_nil)))))) (ra_cons (re_lamH (k := 8) (n := 4) (T := tb K 4) (q := "_law_refused.<locals>.<lambda>") (CB := CB K) (CR := CR K) T.heard rfl (T.tab 4) rfl (by kernel_rfl) hr (by decide) (LamX.lamS_by (by kernel_rfl)) rfl (fun _ _ _ _ _ => rfl) (fun _ _ _ _ _ _ _ hr => (re_make (r_Grove___init__ T) (takes_of rfl rfl rfl rfl) hr (by decide) rfl (ra_cons (re_var (i := 5) rfl (by first | exact .inl rfl | exact .inr (.inl rfl) | exact .inr (.inr rfl))) (ra_cons re_non ra_nil))))) (ra_cons (re_lamH (k := 8) (n := 4) (T := tb K 4) (q := "_law_refused.<locals>.<lambda>") (CB := CB K) (CR := CR K) T.heard rfl (T.tab 4) rfl (by kernel_rfl) hr (by decide) (LamX.lamS_by (by kernel_rfl)) rfl (fun _ _ _ _ _ => rfl) (fun _ _ _ _ _ _ _ hr => (re_make (r_Grove___init__ T) (takes_of rfl rfl rfl rfl) hr (by decide) rfl (ra_cons (re_var (i := 2) rfl (by first | exact .inl rfl | exact .inr (.inl rfl) | exact .inr (.inr rfl))) (ra_cons re_str ra_nil))))) ra_nil)))))))
      (rss_cons (rs_if (rt_not (rt_val (re_call (r__law_alike T 4) (takes_of rfl rfl rfl rfl) hr (by decide) rfl (ra_cons (re_var (i := 6) rfl (by first | exact .inl rfl | exact .inr (.inl rfl) | exact .inr (.inr rfl))) (ra_cons (re_op ro_add (re_op ro_mulB (re_lst (ra_cons (re_tup (ra_cons re_str (ra_cons re_str (ra_cons re_bl ra_nil)))) ra_nil)) re_int) (re_lst (ra_cons (re_tup (ra_cons re_str (ra_cons re_str (ra_cons re_bl ra_nil)))) ra_nil))) ra_nil))))) (rss_one (rs_ret re_bl)) rss_nil)
      (rss_cons (rs_set (i := 7) sc__law_refused.nd rfl (by first | exact .inl rfl | exact .inr rfl) (re_call (r__law_pick T) (takes_of rfl rfl rfl rfl) hr (by decide) rfl (ra_cons (re_var (i := 0) rfl (by first | exact .inl rfl | exact .inr (.inl rfl) | exact .inr (.inr rfl))) (ra_cons (re_lst (ra_cons re_non (ra_cons re_bl (ra_cons (re_neg re_int) (ra_cons re_int (ra_cons re_str (ra_cons re_str (ra_cons re_str (ra_cons (re_tup (ra_cons (re_var (i := 3) rfl (by first | exact .inl rfl | exact .inr (.inl rfl) | exact .inr (.inr rfl))) ra_nil)) ra_nil))))))))) ra_nil))))
      (rss_cons (rs_set (i := 8) sc__law_refused.nd rfl (by first | exact .inl rfl | exact .inr rfl) (re_call (r__law_pick T) (takes_of rfl rfl rfl rfl) hr (by decide) rfl (ra_cons (re_var (i := 0) rfl (by first | exact .inl rfl | exact .inr (.inl rfl) | exact .inr (.inr rfl))) (ra_cons (re_lst (ra_cons (re_lst (ra_cons (re_var (i := 3) rfl (by first | exact .inl rfl | exact .inr (.inl rfl) | exact .inr (.inr rfl))) ra_nil)) (ra_cons (re_tup (ra_cons (re_var (i := 3) rfl (by first | exact .inl rfl | exact .inr (.inl rfl) | exact .inr (.inr rfl))) (ra_cons (re_var (i := 3) rfl (by first | exact .inl rfl | exact .inr (.inl rfl) | exact .inr (.inr rfl))) ra_nil))) (ra_cons (re_tup (ra_cons (re_var (i := 3) rfl (by first | exact .inl rfl | exact .inr (.inl rfl) | exact .inr (.inr rfl))) (ra_cons re_non ra_nil))) (ra_cons re_non (ra_cons (re_tup (ra_cons (re_var (i := 7) rfl (by first | exact .inl rfl | exact .inr (.inl rfl) | exact .inr (.inr rfl))) ra_nil)) ra_nil)))))) ra_nil))))
      (rss_cons (rs_set (i := 6) sc__law_refused.nd rfl (by first | exact .inl rfl | exact .inr rfl) (re_lst (ra_cons (re_lamH (k := 10) (n := 4) (T := tb K 4) (q := "_law_refused.<locals>.<lambda>") (CB := CB K) (CR := CR K) T.heard rfl (T.tab 4) rfl (by kernel_rfl) hr (by decide) (LamX.lamS_by (by kernel_rfl)) rfl (fun _ _ _ _ _ => rfl) (fun _ _ _ _ _ _ _ hr => (re_call (r_rank_of T) (takes_of rfl rfl rfl rfl) hr (by decide) rfl (ra_cons (re_var (i := 4) rfl (by first | exact .inl rfl | exact .inr (.inl rfl) | exact .inr (.inr rfl))) (ra_cons (re_var (i := 1) rfl (by first | exact .inl rfl | exact .inr (.inl rfl) | exact .inr (.inr rfl))) (ra_cons (re_var (i := 7) rfl (by first | exact .inl rfl | exact .inr (.inl rfl) | exact .inr (.inr rfl))) ra_nil)))))) (ra_cons (re_lamH (k := 10) (n := 4) (T := tb K 4) (q := "_law_refused.<locals>.<lambda>") (CB := CB K) (CR := CR K) T.heard rfl (T.tab 4) rfl (by kernel_rfl) hr (by decide) (LamX.lamS_by (by kernel_rfl)) rfl (fun _ _ _ _ _ => rfl) (fun _ _ _ _ _ _ _ hr => (re_call (r_rank_of T) (takes_of rfl rfl rfl rfl) hr (by decide) rfl (ra_cons (re_tup (ra_cons re_str ra_nil)) (ra_cons (re_var (i := 1) rfl (by first | exact .inl rfl | exact .inr (.inl rfl) | exact .inr (.inr rfl))) (ra_cons (re_var (i := 3) rfl (by first | exact .inl rfl | exact .inr (.inl rfl) | exact .inr (.inr rfl))) ra_nil)))))) (ra_cons (re_lamH (k := 10) (n := 4) (T := tb K 4) (q := "_law_refused.<locals>.<lambda>") (CB := CB K) (CR := CR K) T.heard rfl (T.tab 4) rfl (by kernel_rfl) hr (by decide) (LamX.lamS_by (by kernel_rfl)) rfl (fun _ _ _ _ _ => rfl) (fun _ _ _ _ _ _ _ hr => (re_call (r_rank_of T) (takes_of rfl rfl rfl rfl) hr (by decide) rfl (ra_cons (re_var (i := 4) rfl (by first | exact .inl rfl | exact .inr (.inl rfl) | exact .inr (.inr rfl))) (ra_cons re_non (ra_cons (re_var (i := 7) rfl (by first | exact .inl rfl | exact .inr (.inl rfl) | exact .inr (.inr rfl))) ra_nil)))))) (ra_cons (re_lamH (k := 11) (n := 4) (T := tb K 4) (q := "_law_refused.<locals>.<lambda>") (CB := CB K) (CR := CR K) T.heard rfl (T.tab 4) rfl (by kernel_rfl) hr (by decide) (LamX.lamS_by (by kernel_rfl)) rfl (fun _ _ _ _ _ => rfl) (fun _ _ _ _ _ _ _ hr => (re_call (r_one_shape T) (takes_of rfl rfl rfl rfl) hr (by decide) rfl (ra_cons (re_var (i := 2) rfl (by first | exact .inl rfl | exact .inr (.inl rfl) | exact .inr (.inr rfl))) (ra_cons (re_var (i := 1) rfl (by first | exact .inl rfl | exact .inr (.inl rfl) | exact .inr (.inr rfl))) (ra_cons (re_var (i := 8) rfl (by first | exact .inl rfl | exact .inr (.inl rfl) | exact .inr (.inr rfl))) ra_nil)))))) ra_nil))))))
      (rss_one (rs_ret (re_call (r__law_alike T 4) (takes_of rfl rfl rfl rfl) hr (by decide) rfl (ra_cons (re_var (i := 6) rfl (by first | exact .inl rfl | exact .inr (.inl rfl) | exact .inr (.inr rfl))) (ra_cons (re_lst (ra_cons (re_tup (ra_cons re_str (ra_cons re_str (ra_cons re_bl ra_nil)))) (ra_cons (re_tup (ra_cons re_str (ra_cons re_str (ra_cons re_bl ra_nil)))) (ra_cons (re_tup (ra_cons re_str (ra_cons re_str (ra_cons re_bl ra_nil)))) (ra_cons (re_tup (ra_cons re_str (ra_cons re_str (ra_cons re_bl ra_nil)))) ra_nil))))) ra_nil)))))))))))
theorem sc_Grove_rule : FnScope [("self" : Str)] [("self" : Str)] (defScope (cm (top 47) 1)) := ⟨by kernel_rfl, by kernel_rfl, by kernel_rfl, by decide +kernel, by kernel_rfl, by decide +kernel, by decide +kernel⟩
theorem r_Grove_rule (T : Tx P w K mg base) : ReadyP P w K mg base 2 (He.ga K "Grove") "rule" (F_Grove_rule K w) := by
  refine ready_prop (N := [("self" : Str)]) (ps := [("self" : Str)]) (n := 1) (i := 1) (k := 1) T.d_Grove_rule T.c_Grove sc_Grove_rule rfl rfl (fun _ _ _ _ _ _ us hl => match us, hl with | [_], _ => rfl) fun cc A outer s H E hr => ?_
  exact (rss_one (rs_ret (re_fld T.c_Grove T.n_Grove__rule (re_var (i := 0) rfl (by first | exact .inl rfl | exact .inr (.inl rfl) | exact .inr (.inr rfl))))))
theorem sc_Grove_family : FnScope [("self" : Str)] [("self" : Str)] (defScope (cm (top 47) 2)) := ⟨by kernel_rfl, by kernel_rfl, by kernel_rfl, by decide +kernel, by kernel_rfl, by decide +kernel, by decide +kernel⟩
theorem r_Grove_family (T : Tx P w K mg base) : ReadyP P w K mg base 2 (He.ga K "Grove") "family" (F_Grove_family K w) := by
  refine ready_prop (N := [("self" : Str)]) (ps := [("self" : Str)]) (n := 1) (i := 1) (k := 1) T.d_Grove_family T.c_Grove sc_Grove_family rfl rfl (fun _ _ _ _ _ _ us hl => match us, hl with | [_], _ => rfl) fun cc A outer s H E hr => ?_
  exact (rss_one (rs_ret (re_fld T.c_Grove T.n_Grove__family (re_var (i := 0) rfl (by first | exact .inl rfl | exact .inr (.inl rfl) | exact .inr (.inr rfl))))))
theorem sc_Grove___len__ : FnScope [("self" : Str)] [("self" : Str)] (defScope (cm (top 47) 3)) := ⟨by kernel_rfl, by kernel_rfl, by kernel_rfl, by decide +kernel, by kernel_rfl, by decide +kernel, by decide +kernel⟩
theorem r_Grove___len__ (T : Tx P w K mg base) : ReadyM P w K mg base 2 (He.ga K "Grove") "__len__" (F_Grove___len__ K w) := by
  refine ready_meth (N := [("self" : Str)]) (ps := [("self" : Str)]) (n := 1) (i := 1) (k := 1) T.d_Grove___len__ T.c_Grove T.mm_Grove___len__ sc_Grove___len__ rfl rfl (fun _ _ _ _ _ _ us hl => match us, hl with | [_], _ => rfl) fun cc A outer s H E hcc hr => ?_
  subst hcc
  exact (rss_one (rs_ret (re_cb (rcl_len) rfl T.m_len bt_len (ra_cons (re_fld T.c_Grove T.n_Grove__nodes (re_var (i := 0) rfl (by first | exact .inl rfl | exact .inr (.inl rfl) | exact .inr (.inr rfl)))) ra_nil))))
theorem sc_law : FnScope [("script" : Str), ("row" : Str), ("key" : Str), ("ranked" : Str), ("due" : Str), ("family" : Str), ("rule" : Str)] [("script" : Str)] (defScope (top 62)) := ⟨by kernel_rfl, by kernel_rfl, by kernel_rfl, by decide +kernel, by kernel_rfl, by decide +kernel, by decide +kernel⟩
theorem ok_law (T : Tx P w K mg base) {fd : FuncData} (F : FunD K "law" "law" (defArgs (top 62)) (defBody (top 62)) (defScope (top 62)) [] [] (He.ga K "law") fd) : FnOk P w K mg base (L2.CX P w) 15 (He.ga K "law") fd ["script"] (spR K (F_law K w)) := by
  refine fn_mkD (N := [("script" : Str), ("row" : Str), ("key" : Str), ("ranked" : Str), ("due" : Str), ("family" : Str), ("rule" : Str)]) (n := 1) (m := 7) (k := 14) F sc_law rfl rfl fun cc A outer s H E ⟨oc, od, osl, lk, ecc⟩ hr => ?_
  obtain rfl : He.codeOf K ("law", none) = cc := He.codeOf_eq (p := ("law", none)) lk ecc
  exact (rss_cons (rs_set (i := 1) sc_law.nd rfl (by first | exact .inl rfl | exact .inr rfl) (re_new (ra_cons (re_var (i := 0) rfl (by first | exact .inl rfl | exact .inr (.inl rfl) | exact .inr (.inr rfl))) (ra_cons re_int (ra_cons re_int (ra_cons re_int ra_nil))))))
      (rss_cons (rs_par (i := 5) (j := 6) rfl sc_law.nd rfl rfl (by decide) rfl rfl (ra_cons (re_call (r__law_family T) (takes_of rfl rfl rfl rfl) hr (by decide) rfl (ra_cons (re_var (i := 1) rfl (by first | exact .inl rfl | exact .inr (.inl rfl) | exact .inr (.inr rfl))) ra_nil)) (ra_cons (re_call (r__law_rule T) (takes_of rfl rfl rfl rfl) hr (by decide) rfl (ra_cons (re_var (i := 1) rfl (by first | exact .inl rfl | exact .inr (.inl rfl) | exact .inr (.inr rfl))) ra_nil)) ra_nil)) (by kernel_rfl))
      (rss_cons (rs_set (i := 2) sc_law.nd rfl (by first | exact .inl rfl | exact .inr rfl) (re_call (r__law_key T) (takes_of rfl rfl rfl rfl) hr (by decide) rfl (ra_cons (re_var (i := 1) rfl (by first | exact .inl rfl | exact .inr (.inl rfl) | exact .inr (.inr rfl))) (ra_cons (re_var (i := 5) rfl (by first | exact .inl rfl | exact .inr (.inl rfl) | exact .inr (.inr rfl))) ra_nil))))
      (rss_cons (rs_set (i := 3) sc_law.nd rfl (by first | exact .inl rfl | exact .inr rfl) (re_tup (ra_cons re_str (ra_cons (re_call (r__law_ranks T) (takes_of rfl rfl rfl rfl) hr (by decide) rfl (ra_cons (re_var (i := 1) rfl (by first | exact .inl rfl | exact .inr (.inl rfl) | exact .inr (.inr rfl))) ra_nil)) (ra_cons (re_call (r__law_pick T) (takes_of rfl rfl rfl rfl) hr (by decide) rfl (ra_cons (re_var (i := 1) rfl (by first | exact .inl rfl | exact .inr (.inl rfl) | exact .inr (.inr rfl))) (ra_cons (re_lst (ra_cons re_str (ra_cons re_str ra_nil))) ra_nil))) ra_nil)))))
      (rss_cons (rs_if (rt_not (rt_val (re_call (r__law_alike T 4) (takes_of rfl rfl rfl rfl) hr (by decide) rfl (ra_cons (re_call (r_rank_of T) (takes_of rfl rfl rfl rfl) hr (by decide) rfl (ra_cons (re_var (i := 3) rfl (by first | exact .inl rfl | exact .inr (.inl rfl) | exact .inr (.inr rfl))) (ra_cons (re_var (i := 5) rfl (by first | exact .inl rfl | exact .inr (.inl rfl) | exact .inr (.inr rfl))) (ra_cons (re_var (i := 2) rfl (by first | exact .inl rfl | exact .inr (.inl rfl) | exact .inr (.inr rfl))) ra_nil)))) (ra_cons (re_call (r__law_rank T) (takes_of rfl rfl rfl rfl) hr (by decide) rfl (ra_cons (re_var (i := 3) rfl (by first | exact .inl rfl | exact .inr (.inl rfl) | exact .inr (.inr rfl))) (ra_cons (re_var (i := 5) rfl (by first | exact .inl rfl | exact .inr (.inl rfl) | exact .inr (.inr rfl))) (ra_cons (re_var (i := 2) rfl (by first | exact .inl rfl | exact .inr (.inl rfl) | exact .inr (.inr rfl))) ra_nil)))) ra_nil))))) (rss_one (rs_ret re_bl)) rss_nil)
      (rss_cons (rs_set (i := 4) sc_law.nd rfl (by first | exact .inl rfl | exact .inr rfl) (re_or (re_cmp ro_in (re_ix (re_var (i := 6) rfl (by first | exact .inl rfl | exact .inr (.inl rfl) | exact .inr (.inr rfl))) re_int) (re_tup (ra_cons re_str (ra_cons re_str ra_nil))) rfl) (re_one (re_and (re_cmp (ro_eq hr) (re_ix (re_var (i := 6) rfl (by first | exact .inl rfl | exact .inr (.inl rfl) | exact .inr (.inr rfl))) re_int) re_str rfl) (re_one (re_cmp (ro_eq hr) (re_ix (re_var (i := 6) rfl (by first | exact .inl rfl | exact .inr (.inl rfl) | exact .inr (.inr rfl))) re_int) re_str rfl))))))
      (rss_cons (rs_if (rt_not (rt_val (re_call (r__law_alike T 4) (takes_of rfl rfl rfl rfl) hr (by decide) rfl (ra_cons (re_lst (ra_cons (re_call (r_always_one T) (takes_of rfl rfl rfl rfl) hr (by decide) rfl (ra_cons (re_var (i := 6) rfl (by first | exact .inl rfl | exact .inr (.inl rfl) | exact .inr (.inr rfl))) ra_nil)) (ra_cons (re_prop (r_Grove_rule T) hr (by decide) (re_make (r_Grove___init__ T) (takes_of rfl rfl rfl rfl) hr (by decide) rfl (ra_cons (re_var (i := 6) rfl (by first | exact .inl rfl | exact .inr (.inl rfl) | exact .inr (.inr rfl))) (ra_cons (re_var (i := 5) rfl (by first | exact .inl rfl | exact .inr (.inl rfl) | exact .inr (.inr rfl))) ra_nil)))) (ra_cons (re_prop (r_Grove_family T) hr (by decide) (re_make (r_Grove___init__ T) (takes_of rfl rfl rfl rfl) hr (by decide) rfl (ra_cons (re_var (i := 6) rfl (by first | exact .inl rfl | exact .inr (.inl rfl) | exact .inr (.inr rfl))) (ra_cons (re_var (i := 5) rfl (by first | exact .inl rfl | exact .inr (.inl rfl) | exact .inr (.inr rfl))) ra_nil)))) (ra_cons (re_lenO (r_Grove___len__ T) hr (by decide) rfl T.m_len (re_make (r_Grove___init__ T) (takes_of rfl rfl rfl rfl) hr (by decide) rfl (ra_cons (re_var (i := 6) rfl (by first | exact .inl rfl | exact .inr (.inl rfl) | exact .inr (.inr rfl))) (ra_cons (re_var (i := 5) rfl (by first | exact .inl rfl | exact .inr (.inl rfl) | exact .inr (.inr rfl))) ra_nil)))) ra_nil))))) (ra_cons (re_lst (ra_cons (re_var (i := 4) rfl (by first | exact .inl rfl | exact .inr (.inl rfl) | exact .inr (.inr rfl))) (ra_cons (re_var (i := 6) rfl (by first | exact .inl rfl | exact .inr (.inl rfl) | exact .inr (.inr rfl))) (ra_cons (re_var (i := 5) rfl (by first | exact .inl rfl | exact .inr (.inl rfl) | exact .inr (.inr rfl))) (ra_cons re_int ra_nil))))) ra_nil))))) (rss_one (rs_ret re_bl)) rss_nil)
      (rss_one (rs_ret (re_call (r__law_refused T) (takes_of rfl rfl rfl rfl) hr (by decide) rfl (ra_cons (re_var (i := 1) rfl (by first | exact .inl rfl | exact .inr (.inl rfl) | exact .inr (.inr rfl))) (ra_cons (re_var (i := 5) rfl (by first | exact .inl rfl | exact .inr (.inl rfl) | exact .inr (.inr rfl))) (ra_cons (re_var (i := 6) rfl (by first | exact .inl rfl | exact .inr (.inl rfl) | exact .inr (.inr rfl))) (ra_cons (re_var (i := 2) rfl (by first | exact .inl rfl | exact .inr (.inl rfl) | exact .inr (.inr rfl))) (ra_cons (re_var (i := 3) rfl (by first | exact .inl rfl | exact .inr (.inl rfl) | exact .inr (.inr rfl))) ra_nil)))))))))))))))
end
end K02

set_option Elab.async false
set_option linter.all false
set_option maxRecDepth 100000
set_option maxHeartbeats 0
namespace K02
open PySem PySem.Spec PyProof.Rows L2 RL
/-! ## the head -/
def clsInit : Stmt → Stmt
  | .ClassDef _ _ _ body _ _ _ _ _ _ _ => body.getD 0 (.Pass ⟨0, 0, 0, 0⟩)
  | s => s
def fdef : List He.Fa := [.glo "is_number", .glo "check", .glo "is_word", .glo "is_family", .glo "is_key", .glo "are_rising", .glo "are_keys", .glo "row_of", .glo "is_rule", .glo "rank_in", .glo "rank_of", .glo "check_all", .glo "one_shape", .glo "always_one", .glo "_law_taken", .glo "_law_pick", .glo "_law_family", .glo "_law_ranks", .glo "_law_rule", .glo "_law_word", .glo "_law_key", .glo "_law_alike", .glo "_law_letters", .glo "_law_rank", .glo "_law_no_rule", .glo "_law_heard", .glo "_law_refused", .glo "law", .cls "Grove", .noat "Grove" "_rule", .noat "Grove" "_family", .noat "Grove" "_nodes", .noat "Grove" "_numbers", .noat "Grove" "_many", .noat "Grove" "_heights", .mkr "Grove", .meth "Grove" "__len__", .glo "BoughError", .glo "BadArgument", .glo "Refused"] ++ [.glo "Unread", .glo "Grove", .free "ValueError", .free "all", .free "bool", .free "dict", .free "enumerate", .free "int", .free "isinstance", .free "len", .free "list", .free "range", .free "str", .free "sum", .free "super", .free "tuple", .free "zip", .str "BITS" "bits", .str "BY_COMING" "came", .str "BY_KEY" "key", .int "DIGIT_BITS" 4, .glo "FAMILIES", .int "KEY_BITS" 16, .str "LETTERS" "abcdefghijklmnopqrstuvwxyz", .int "MOST_KEY" 65535, .int "MOST_KEYS" 300, .int "MOST_LEAST" 4, .int "MOST_LETTERS" 12, .int "MOST_RANK" 99, .int "MOST_RANKS" 12, .str "NUMBERS" "numbers", .str "PAGES" "pages", .glo "PLAIN", .str "RANKS" "ranks", .str "STARTS" "starts", .exm "BadArgument" "BadArgument" true, .exm "Refused" "BadArgument" false, .exm "Refused" "Refused" true] ++ []
def fn : List He.DefD := [⟨("is_number", none), "is_number", "is_number", defArgs (top 16), defBody (top 16), defScope (top 16), [], []⟩,
  ⟨("check", none), "check", "check", defArgs (top 17), defBody (top 17), defScope (top 17), [], []⟩,
  ⟨("is_word", none), "is_word", "is_word", defArgs (top 18), defBody (top 18), defScope (top 18), [], []⟩,
  ⟨("is_family", none), "is_family", "is_family", defArgs (top 19), defBody (top 19), defScope (top 19), [], []⟩,
  ⟨("is_key", none), "is_key", "is_key", defArgs (top 20), defBody (top 20), defScope (top 20), [], []⟩,
  ⟨("are_rising", none), "are_rising", "are_rising", defArgs (top 21), defBody (top 21), defScope (top 21), [], []⟩,
  ⟨("are_keys", none), "are_keys", "are_keys", defArgs (top 22), defBody (top 22), defScope (top 22), [], []⟩,
  ⟨("row_of", none), "row_of", "row_of", defArgs (top 24), defBody (top 24), defScope (top 24), [], []⟩,
  ⟨("is_rule", none), "is_rule", "is_rule", defArgs (top 38), defBody (top 38), defScope (top 38), [], []⟩,
  ⟨("rank_in", none), "rank_in", "rank_in", defArgs (top 39), defBody (top 39), defScope (top 39), [], []⟩,
  ⟨("rank_of", none), "rank_of", "rank_of", defArgs (top 40), defBody (top 40), defScope (top 40), [], []⟩,
  ⟨("check_all", none), "check_all", "check_all", defArgs (top 43), defBody (top 43), defScope (top 43), [], []⟩,
  ⟨("one_shape", none), "one_shape", "one_shape", defArgs (top 44), defBody (top 44), defScope (top 44), [], []⟩,
  ⟨("always_one", none), "always_one", "always_one", defArgs (top 45), defBody (top 45), defScope (top 45), [], []⟩,
  ⟨("_law_taken", none), "_law_taken", "_law_taken", defArgs (top 49), defBody (top 49), defScope (top 49), [], []⟩,
  ⟨("_law_pick", none), "_law_pick", "_law_pick", defArgs (top 50), defBody (top 50), defScope (top 50), [], []⟩,
  ⟨("_law_family", none), "_law_family", "_law_family", defArgs (top 51), defBody (top 51), defScope (top 51), [], []⟩,
  ⟨("_law_ranks", none), "_law_ranks", "_law_ranks", defArgs (top 52), defBody (top 52), defScope (top 52), [], []⟩,
  ⟨("_law_rule", none), "_law_rule", "_law_rule", defArgs (top 53), defBody (top 53), defScope (top 53), [], []⟩,
  ⟨("_law_word", none), "_law_word", "_law_word", defArgs (top 54), defBody (top 54), defScope (top 54), [], []⟩,
  ⟨("_law_key", none), "_law_key", "_law_key", defArgs (top 55), defBody (top 55), defScope (top 55), [], []⟩,
  ⟨("_law_alike", none), "_law_alike", "_law_alike", defArgs (top 56), defBody (top 56), defScope (top 56), [], []⟩,
  ⟨("_law_letters", none), "_law_letters", "_law_letters", defArgs (top 57), defBody (top 57), defScope (top 57), [], []⟩,
  ⟨("_law_rank", none), "_law_rank", "_law_rank", defArgs (top 58), defBody (top 58), defScope (top 58), [], []⟩,
  ⟨("_law_no_rule", none), "_law_no_rule", "_law_no_rule", defArgs (top 59), defBody (top 59), defScope (top 59), [], []⟩,
  ⟨("_law_heard", none), "_law_heard", "_law_heard", defArgs (top 60), defBody (top 60), defScope (top 60), [], []⟩,
  ⟨("Grove", some "__init__"), "__init__", "Grove" ++ "." ++ "__init__", defArgs (cm (top 47) 0), defBody (cm (top 47) 0), defScope (cm (top 47) 0), [], []⟩,
  ⟨("_law_refused", none), "_law_refused", "_law_refused", defArgs (top 61), defBody (top 61), defScope (top 61), [], []⟩,
  ⟨("Grove", some "__len__"), "__len__", "Grove" ++ "." ++ "__len__", defArgs (cm (top 47) 3), defBody (cm (top 47) 3), defScope (cm (top 47) 3), [], []⟩,
  ⟨("law", none), "law", "law", defArgs (top 62), defBody (top 62), defScope (top 62), [], []⟩]
def ini : List FnX := [FnX.ofIni ⟨"BadArgument", defArgs (clsInit (top 3)), defBody (clsInit (top 3)), defScope (clsInit (top 3))⟩, FnX.ofIni ⟨"Refused", defArgs (clsInit (top 4)), defBody (clsInit (top 4)), defScope (clsInit (top 4))⟩, FnX.ofProp "Grove" "rule" (defArgs (cm (top 47) 1)) (defBody (cm (top 47) 1)) (defScope (cm (top 47) 1)), FnX.ofProp "Grove" "family" (defArgs (cm (top 47) 2)) (defBody (cm (top 47) 2)) (defScope (cm (top 47) 2))]
def ex (K : PySem.W.Frag) : Bool := clsB K "BadArgument" "BoughError" "name" && (clsB K "Refused" "BoughError" "why" && (iniB PySem.Challenge.pw_keyboughs_k02_whole_ranks.main.file K "BadArgument" && (iniB PySem.Challenge.pw_keyboughs_k02_whole_ranks.main.file K "Refused" && (He.eqO (PySem.W.nsIn K cStatics "thirdparty.any") (some none) && (decide ((tfs.map fun p => (He.cT K p.1).2).Nodup) && He.tupB K "FAMILIES" [.str "numbers", .str "words"] && He.tupB K "PLAIN" [.str "come", .str "levels", .str "bits", .str "starts"] && prB K "Grove" "rule" && prB K "Grove" "family")))))
abbrev R : PySem.W.OpenRow := PySem.W.OpenLaw.row PySem.Challenge.rw_keyboughs_k02_whole_ranks
abbrev hk : PySem.W.Hook := hookX 5 fdef fn ini (tfs.map (·.1)) ex
def ob (s : PySem.W.SharedT) : AlR := obsX 5 fdef fn ini (tfs.map (·.1)) ex (HandSHeadRun.getT s)
theorem ob_eq (s : PySem.W.SharedT) : ob s = hk.obs s.abs := obsX_eq (HandSHeadRun.getT_eq s)
def loose : List PySem.Str := ([("BoughError" : PySem.Str), ("BadArgument" : PySem.Str), ("Refused" : PySem.Str), ("Unread" : PySem.Str), ("Grove" : PySem.Str), ("LETTERS" : PySem.Str), ("MOST_LETTERS" : PySem.Str), ("MOST_KEY" : PySem.Str), ("MOST_KEYS" : PySem.Str), ("NUMBERS" : PySem.Str), ("WORDS" : PySem.Str), ("FAMILIES" : PySem.Str), ("KEY_BITS" : PySem.Str), ("DIGIT_BITS" : PySem.Str), ("COME" : PySem.Str), ("LEVELS" : PySem.Str), ("RANKS" : PySem.Str), ("BITS" : PySem.Str), ("STARTS" : PySem.Str), ("PAGES" : PySem.Str), ("BY_KEY" : PySem.Str), ("BY_COMING" : PySem.Str), ("MOST_RANKS" : PySem.Str), ("MOST_RANK" : PySem.Str), ("MOST_LEAST" : PySem.Str), ("PLAIN" : PySem.Str), ("_wall" : PySem.Str), ("is_number" : PySem.Str), ("check" : PySem.Str), ("is_word" : PySem.Str)] : List PySem.Str) ++ ([("is_family" : PySem.Str), ("is_key" : PySem.Str), ("are_rising" : PySem.Str), ("are_keys" : PySem.Str), ("row_of" : PySem.Str), ("is_rule" : PySem.Str), ("rank_in" : PySem.Str), ("rank_of" : PySem.Str), ("rivals" : PySem.Str), ("has_one_shape" : PySem.Str), ("check_all" : PySem.Str), ("one_shape" : PySem.Str), ("always_one" : PySem.Str), ("_law_taken" : PySem.Str), ("_law_pick" : PySem.Str), ("_law_family" : PySem.Str), ("_law_ranks" : PySem.Str), ("_law_rule" : PySem.Str), ("_law_word" : PySem.Str), ("_law_key" : PySem.Str), ("_law_alike" : PySem.Str), ("_law_letters" : PySem.Str), ("_law_rank" : PySem.Str), ("_law_no_rule" : PySem.Str), ("_law_heard" : PySem.Str), ("_law_refused" : PySem.Str)] : List PySem.Str)
theorem run (w : World) : HandSHeadRun.RunEq R (PySem.W.view R.prog [62]) hk ob 6000 loose w := by
  intro os
  kernel_rfl
section
variable {P : Program} {w : World} {K : PySem.W.Frag} {h : Heap} {mg : Str → Option Value}
theorem mk_tx {base : Heap} (X : K.In base) (G : base.Ns mainGlobals mg) (hP : P = PySem.Challenge.pw_keyboughs_k02_whole_ranks) (c : SaysX fdef fn ini (tfs.map (·.1)) ex h K) (TB : ∀ p ∈ tfs, LamX.TabB base mg (He.cT K p.1).1 (He.cT K p.1).2) : Tx P w K mg base := by
  subst hP
  have m := c.more
  unfold ex at m
  obtain ⟨c1, m⟩ := He.ba m
  obtain ⟨c2, m⟩ := He.ba m
  obtain ⟨c3, m⟩ := He.ba m
  obtain ⟨c4, m⟩ := He.ba m
  obtain ⟨c5, m⟩ := He.ba m
  obtain ⟨m, p0⟩ := He.ba m
  obtain ⟨m, p1⟩ := He.ba m
  obtain ⟨m, t0⟩ := He.ba m
  obtain ⟨m, t1⟩ := He.ba m
  have fb := clsB_ok c1
  have fr := clsB_ok c2
  have ownB := own_txt (base := base) (j := 0) (fn := "name") (pre := "bad argument: ") fb (He.glo_ok X G (c.d.fact 38 (f := .glo "BadArgument") rfl)) (c.ini 0) c3 (He.free_ok X G (c.d.fact 54 (f := .free "super") rfl)) (He.eqO_ok c5) (by kernel_rfl) rfl rfl rfl ⟨_, fun _ => rfl⟩
  have ownR := own_txt (base := base) (j := 0) (fn := "why") (pre := "refused: ") fr (He.glo_ok X G (c.d.fact 39 (f := .glo "Refused") rfl)) (c.ini 1) c4 (He.free_ok X G (c.d.fact 54 (f := .free "super") rfl)) (He.eqO_ok c5) (by kernel_rfl) rfl rfl rfl ⟨_, fun _ => rfl⟩
  have ht : HeardTxt K mg (CB K) (CR K) (He.ga K "Unread") (He.ga K "BoughError") := ⟨fb.cl, fr.cl, He.glo_ok X G (c.d.fact 38 (f := .glo "BadArgument") rfl), He.glo_ok X G (c.d.fact 39 (f := .glo "Refused") rfl), He.glo_ok X G (c.d.fact 40 (f := .glo "Unread") rfl), He.glo_ok X G (c.d.fact 37 (f := .glo "BoughError") rfl), He.free_ok X G (c.d.fact 48 (f := .free "isinstance") rfl), He.free_ok X G (c.d.fact 42 (f := .free "ValueError") rfl), He.exm_ok (c.d.fact 75 (f := .exm "BadArgument" "BadArgument" true) rfl), He.exm_ok (c.d.fact 76 (f := .exm "Refused" "BadArgument" false) rfl), He.exm_ok (c.d.fact 77 (f := .exm "Refused" "Refused" true) rfl)⟩
  exact {
    m_ValueError := He.free_ok X G (c.d.fact 42 (f := .free "ValueError") rfl)
    m_all := He.free_ok X G (c.d.fact 43 (f := .free "all") rfl)
    m_bool := He.free_ok X G (c.d.fact 44 (f := .free "bool") rfl)
    m_dict := He.free_ok X G (c.d.fact 45 (f := .free "dict") rfl)
    m_enumerate := He.free_ok X G (c.d.fact 46 (f := .free "enumerate") rfl)
    m_int := He.free_ok X G (c.d.fact 47 (f := .free "int") rfl)
    m_isinstance := He.free_ok X G (c.d.fact 48 (f := .free "isinstance") rfl)
    m_len := He.free_ok X G (c.d.fact 49 (f := .free "len") rfl)
    m_list := He.free_ok X G (c.d.fact 50 (f := .free "list") rfl)
    m_range := He.free_ok X G (c.d.fact 51 (f := .free "range") rfl)
    m_str := He.free_ok X G (c.d.fact 52 (f := .free "str") rfl)
    m_sum := He.free_ok X G (c.d.fact 53 (f := .free "sum") rfl)
    m_super := He.free_ok X G (c.d.fact 54 (f := .free "super") rfl)
    m_tuple := He.free_ok X G (c.d.fact 55 (f := .free "tuple") rfl)
    m_zip := He.free_ok X G (c.d.fact 56 (f := .free "zip") rfl)
    k_BITS := kon_str (He.str_ok X G (c.d.fact 57 (f := .str "BITS" "bits") rfl))
    k_BY_COMING := kon_str (He.str_ok X G (c.d.fact 58 (f := .str "BY_COMING" "came") rfl))
    k_BY_KEY := kon_str (He.str_ok X G (c.d.fact 59 (f := .str "BY_KEY" "key") rfl))
    k_DIGIT_BITS := kon_int (He.int_ok X G (c.d.fact 60 (f := .int "DIGIT_BITS" 4) rfl))
    k_FAMILIES := kon_tup (vs := [.str "numbers", .str "words"]) (He.glo_ok X G (c.d.fact 61 (f := .glo "FAMILIES") rfl)) t1 rfl
    k_KEY_BITS := kon_int (He.int_ok X G (c.d.fact 62 (f := .int "KEY_BITS" 16) rfl))
    k_LETTERS := kon_str (He.str_ok X G (c.d.fact 63 (f := .str "LETTERS" "abcdefghijklmnopqrstuvwxyz") rfl))
    k_MOST_KEY := kon_int (He.int_ok X G (c.d.fact 64 (f := .int "MOST_KEY" 65535) rfl))
    k_MOST_KEYS := kon_int (He.int_ok X G (c.d.fact 65 (f := .int "MOST_KEYS" 300) rfl))
    k_MOST_LEAST := kon_int (He.int_ok X G (c.d.fact 66 (f := .int "MOST_LEAST" 4) rfl))
    k_MOST_LETTERS := kon_int (He.int_ok X G (c.d.fact 67 (f := .int "MOST_LETTERS" 12) rfl))
    k_MOST_RANK := kon_int (He.int_ok X G (c.d.fact 68 (f := .int "MOST_RANK" 99) rfl))
    k_MOST_RANKS := kon_int (He.int_ok X G (c.d.fact 69 (f := .int "MOST_RANKS" 12) rfl))
    k_NUMBERS := kon_str (He.str_ok X G (c.d.fact 70 (f := .str "NUMBERS" "numbers") rfl))
    k_PAGES := kon_str (He.str_ok X G (c.d.fact 71 (f := .str "PAGES" "pages") rfl))
    k_PLAIN := kon_tup (vs := [.str "come", .str "levels", .str "bits", .str "starts"]) (He.glo_ok X G (c.d.fact 72 (f := .glo "PLAIN") rfl)) t0 rfl
    k_RANKS := kon_str (He.str_ok X G (c.d.fact 73 (f := .str "RANKS" "ranks") rfl))
    k_STARTS := kon_str (He.str_ok X G (c.d.fact 74 (f := .str "STARTS" "starts") rfl))
    own_BadArgument := ownB
    own_Refused := ownR
    tabs := TB
    heard := heard_mk (params := defArgs (top 60)) (body := defBody (top 60)) (scope := defScope (top 60)) (SaysX.at (fa := fdef) (fn := fn) (xs := ini) (tf := tfs.map (·.1)) (ex := ex) X G c 25 25 (by kernel_rfl) (by kernel_rfl)) ⟨by kernel_rfl, by kernel_rfl, by kernel_rfl, by decide +kernel, by kernel_rfl, by decide +kernel, by decide +kernel⟩ (.inl rfl) (fun _ _ _ _ _ _ us hl => match us, hl with | [_], _ => rfl) fun X2 q g cdg h1 h2 => by
      subst h1 h2
      exact heard_gives ht rfl rfl rfl rfl rfl rfl rfl rfl
    d_is_number := SaysX.at (fa := fdef) (fn := fn) (xs := ini) (tf := tfs.map (·.1)) (ex := ex) X G c 0 0 (by kernel_rfl) (by kernel_rfl)
    d_check := SaysX.at (fa := fdef) (fn := fn) (xs := ini) (tf := tfs.map (·.1)) (ex := ex) X G c 1 1 (by kernel_rfl) (by kernel_rfl)
    d_is_word := SaysX.at (fa := fdef) (fn := fn) (xs := ini) (tf := tfs.map (·.1)) (ex := ex) X G c 2 2 (by kernel_rfl) (by kernel_rfl)
    d_is_family := SaysX.at (fa := fdef) (fn := fn) (xs := ini) (tf := tfs.map (·.1)) (ex := ex) X G c 3 3 (by kernel_rfl) (by kernel_rfl)
    d_is_key := SaysX.at (fa := fdef) (fn := fn) (xs := ini) (tf := tfs.map (·.1)) (ex := ex) X G c 4 4 (by kernel_rfl) (by kernel_rfl)
    d_are_rising := SaysX.at (fa := fdef) (fn := fn) (xs := ini) (tf := tfs.map (·.1)) (ex := ex) X G c 5 5 (by kernel_rfl) (by kernel_rfl)
    d_are_keys := SaysX.at (fa := fdef) (fn := fn) (xs := ini) (tf := tfs.map (·.1)) (ex := ex) X G c 6 6 (by kernel_rfl) (by kernel_rfl)
    d_row_of := SaysX.at (fa := fdef) (fn := fn) (xs := ini) (tf := tfs.map (·.1)) (ex := ex) X G c 7 7 (by kernel_rfl) (by kernel_rfl)
    d_is_rule := SaysX.at (fa := fdef) (fn := fn) (xs := ini) (tf := tfs.map (·.1)) (ex := ex) X G c 8 8 (by kernel_rfl) (by kernel_rfl)
    d_rank_in := SaysX.at (fa := fdef) (fn := fn) (xs := ini) (tf := tfs.map (·.1)) (ex := ex) X G c 9 9 (by kernel_rfl) (by kernel_rfl)
    d_rank_of := SaysX.at (fa := fdef) (fn := fn) (xs := ini) (tf := tfs.map (·.1)) (ex := ex) X G c 10 10 (by kernel_rfl) (by kernel_rfl)
    d_check_all := SaysX.at (fa := fdef) (fn := fn) (xs := ini) (tf := tfs.map (·.1)) (ex := ex) X G c 11 11 (by kernel_rfl) (by kernel_rfl)
    d_one_shape := SaysX.at (fa := fdef) (fn := fn) (xs := ini) (tf := tfs.map (·.1)) (ex := ex) X G c 12 12 (by kernel_rfl) (by kernel_rfl)
    d_always_one := SaysX.at (fa := fdef) (fn := fn) (xs := ini) (tf := tfs.map (·.1)) (ex := ex) X G c 13 13 (by kernel_rfl) (by kernel_rfl)
    d__law_taken := SaysX.at (fa := fdef) (fn := fn) (xs := ini) (tf := tfs.map (·.1)) (ex := ex) X G c 14 14 (by kernel_rfl) (by kernel_rfl)
    d__law_pick := SaysX.at (fa := fdef) (fn := fn) (xs := ini) (tf := tfs.map (·.1)) (ex := ex) X G c 15 15 (by kernel_rfl) (by kernel_rfl)
    d__law_family := SaysX.at (fa := fdef) (fn := fn) (xs := ini) (tf := tfs.map (·.1)) (ex := ex) X G c 16 16 (by kernel_rfl) (by kernel_rfl)
    d__law_ranks := SaysX.at (fa := fdef) (fn := fn) (xs := ini) (tf := tfs.map (·.1)) (ex := ex) X G c 17 17 (by kernel_rfl) (by kernel_rfl)
    d__law_rule := SaysX.at (fa := fdef) (fn := fn) (xs := ini) (tf := tfs.map (·.1)) (ex := ex) X G c 18 18 (by kernel_rfl) (by kernel_rfl)
    d__law_word := SaysX.at (fa := fdef) (fn := fn) (xs := ini) (tf := tfs.map (·.1)) (ex := ex) X G c 19 19 (by kernel_rfl) (by kernel_rfl)
    d__law_key := SaysX.at (fa := fdef) (fn := fn) (xs := ini) (tf := tfs.map (·.1)) (ex := ex) X G c 20 20 (by kernel_rfl) (by kernel_rfl)
    d__law_alike := SaysX.at (fa := fdef) (fn := fn) (xs := ini) (tf := tfs.map (·.1)) (ex := ex) X G c 21 21 (by kernel_rfl) (by kernel_rfl)
    d__law_letters := SaysX.at (fa := fdef) (fn := fn) (xs := ini) (tf := tfs.map (·.1)) (ex := ex) X G c 22 22 (by kernel_rfl) (by kernel_rfl)
    d__law_rank := SaysX.at (fa := fdef) (fn := fn) (xs := ini) (tf := tfs.map (·.1)) (ex := ex) X G c 23 23 (by kernel_rfl) (by kernel_rfl)
    d__law_no_rule := SaysX.at (fa := fdef) (fn := fn) (xs := ini) (tf := tfs.map (·.1)) (ex := ex) X G c 24 24 (by kernel_rfl) (by kernel_rfl)
    d_Grove___init__ := SaysX.meth (fa := fdef) (fn := fn) (xs := ini) (tf := tfs.map (·.1)) (ex := ex) c 26 (by kernel_rfl)
    d__law_refused := SaysX.at (fa := fdef) (fn := fn) (xs := ini) (tf := tfs.map (·.1)) (ex := ex) X G c 27 26 (by kernel_rfl) (by kernel_rfl)
    d_Grove_rule := SaysX.prop (fa := fdef) (fn := fn) (xs := ini) (tf := tfs.map (·.1)) (ex := ex) c 2 p1 (by kernel_rfl)
    d_Grove_family := SaysX.prop (fa := fdef) (fn := fn) (xs := ini) (tf := tfs.map (·.1)) (ex := ex) c 3 p0 (by kernel_rfl)
    d_Grove___len__ := SaysX.meth (fa := fdef) (fn := fn) (xs := ini) (tf := tfs.map (·.1)) (ex := ex) c 28 (by kernel_rfl)
    d_law := SaysX.at (fa := fdef) (fn := fn) (xs := ini) (tf := tfs.map (·.1)) (ex := ex) X G c 29 27 (by kernel_rfl) (by kernel_rfl)
    c_Grove := He.cls_ok (c.d.fact 28 (f := .cls "Grove") rfl)
    n_Grove__rule := He.noat_ok (c.d.fact 29 (f := .noat "Grove" "_rule") rfl)
    n_Grove__family := He.noat_ok (c.d.fact 30 (f := .noat "Grove" "_family") rfl)
    n_Grove__nodes := He.noat_ok (c.d.fact 31 (f := .noat "Grove" "_nodes") rfl)
    n_Grove__numbers := He.noat_ok (c.d.fact 32 (f := .noat "Grove" "_numbers") rfl)
    n_Grove__many := He.noat_ok (c.d.fact 33 (f := .noat "Grove" "_many") rfl)
    n_Grove__heights := He.noat_ok (c.d.fact 34 (f := .noat "Grove" "_heights") rfl)
    mk_Grove := He.mkr_ok (c.d.fact 35 (f := .mkr "Grove") rfl)
    g_Grove := He.glo_ok X G (c.d.fact 41 (f := .glo "Grove") rfl)
    mm_Grove___len__ := He.meth_ok (c.d.fact 36 (f := .meth "Grove" "__len__") rfl) }
end
end K02
open PySem PySem.W PySem.Calls PyProof.Rows
theorem K02.holds_of (hlaw : ∀ (K : PySem.W.Frag) (w : World), ((K02.tfs.map fun p => (He.cT K p.1).2).Nodup) → ∀ ns : List Int, ns.length ≤ 63 → (∀ z ∈ ns, Builtin.Int.intBits z ≤ 1048576) → (∀ x y : PySem.Str, (x, y) ∈ ([("BadArgument", "Refused")] : List (PySem.Str × PySem.Str)) → He.ga K x ≠ He.ga K y) → ∃ c', K02.F_law K w [.scr (ns.map RL.D.int)] (RL.cells0 K K02.tfs) = .ok (.bl true) c') : PySem.Challenge.rw_keyboughs_k02_whole_ranks.Holds := by
  w_on; o_law
  refine HandSHeadRun.head_any (r := OpenLaw.row PySem.Challenge.rw_keyboughs_k02_whole_ranks) (q := view (OpenLaw.row PySem.Challenge.rw_keyboughs_k02_whole_ranks).prog [62]) (H := K02.hk) (ob := K02.ob) (M := 6000) (loose := K02.loose) (d := HandSHeadRun.topDef (OpenLaw.row PySem.Challenge.rw_keyboughs_k02_whole_ranks).prog 62) (kwd := []) K02.ob_eq
    (by kernel_rfl) (fun s => by kernel_rfl) K02.run (by kernel_rfl) (by kernel_rfl) (by kernel_rfl) (by rfl) (by first | assumption | decide +kernel) (by decide +kernel) ⟨rfl, rfl, rfl, rfl, rfl, by decide +kernel⟩ ?hw ?hc
  case hw => w_witness2
  case hc =>
    refine LamX.walk_ofTsE (l := PySem.Challenge.rw_keyboughs_k02_whole_ranks) (n := 63) (k := 15) (x := "script") (CX := fun w => L2.CX PySem.Challenge.rw_keyboughs_k02_whole_ranks.prog w) rfl (by decide) (by kernel_rfl) ⟨rfl, by decide, by decide⟩ ?F (fun w H s e s' ⟨_, _, _, _, _, _, _, _, _, _, _, _, z⟩ => z)
    intro w mg fa h Y G hmg0
    obtain ⟨K, KX, c⟩ := Y
    have hmg : mg ("law" : PySem.Str) = some (.ref fa) := by
      have e : (HandSHeadRun.topDef (OpenLaw.row PySem.Challenge.rw_keyboughs_k02_whole_ranks).prog 62).name = ("law" : PySem.Str) := by kernel_rfl
      rw [← e]
      exact hmg0
    have DL := RL.SaysX.at (fa := K02.fdef) (fn := K02.fn) (xs := K02.ini) (tf := K02.tfs.map (·.1)) (ex := K02.ex) (mg := mg) KX G c 29 27 (x := "law") (params := L2.defArgs (K02.top 62)) (body := L2.defBody (K02.top 62)) (scope := L2.defScope (K02.top 62)) (by kernel_rfl) (by kernel_rfl)
    have e := hmg.symm.trans DL.g
    cases e
    obtain ⟨fd, F⟩ := DL.d
    have b := L2.FunD.bindsA (ps := ["script"]) F fun _ _ _ _ _ _ us hl => match us, hl with | [_], _ => rfl
    have m := c.more
    unfold K02.ex at m
    obtain ⟨c1, m⟩ := He.ba m
    obtain ⟨c2, m⟩ := He.ba m
    obtain ⟨c3, m⟩ := He.ba m
    obtain ⟨c4, m⟩ := He.ba m
    obtain ⟨c5, m⟩ := He.ba m
    obtain ⟨m, p0⟩ := He.ba m
    obtain ⟨m, p1⟩ := He.ba m
    obtain ⟨m, t0⟩ := He.ba m
    obtain ⟨m, t1⟩ := He.ba m
    have hnd := of_decide_eq_true m
    refine ⟨K, KX, RL.law_atX (l := PySem.Challenge.rw_keyboughs_k02_whole_ranks) (tf := K02.tfs) (F := fun K => K02.F_law K w) KX c hnd (fun s u => b s [u] rfl) (fun ns hl hb => hlaw K w hnd ns hl hb fun x y hxy e => ?_) fun base hK hN hTB => K02.ok_law (K02.mk_tx hK hN rfl c hTB) F⟩
    have e1 := He.exm_ok (c.d.fact 75 (f := .exm "BadArgument" "BadArgument" true) rfl)
    have e2 := He.exm_ok (c.d.fact 76 (f := .exm "Refused" "BadArgument" false) rfl)
    obtain ⟨rfl, rfl⟩ : x = "BadArgument" ∧ y = "Refused" := by simpa using hxy
    rw [← e, e1] at e2
    cases e2

set_option Elab.async false
set_option linter.all false
set_option maxRecDepth 100000
set_option maxHeartbeats 4000000
/-! ## the plain law: printed from templates -/
namespace K02
open PySem PySem.Spec PyProof.Rows L2 RL
variable {K : PySem.W.Frag} {Wo : World}
def cw (K : PySem.W.Frag) (ds : List Int) (p s r : Int) (cs : Cs) : Cs :=
  .tab (tb K 0) "is_word.<locals>.<genexpr>" :: .tab (tb K 1) "are_rising.<locals>.<genexpr>" :: .tab (tb K 2) "are_keys.<locals>.<genexpr>" :: .tab (tb K 3) "is_rule.<locals>.<genexpr>" :: .tab (tb K 4) "_law_refused.<locals>.<lambda>"
    :: .lst [.scr (ds.map .int), .int p, .int s, .int r] :: cs
def Row (K : PySem.W.Frag) (_ : World) (ds : List Int) (c : Cs) : Prop := ∃ p s r cs, 0 ≤ p ∧ c = cw K ds p s r cs
theorem Row.start (ds : List Int) : Row K Wo ds (cells0 K tfs ++ [.lst [.scr (ds.map .int), .int 0, .int 7401502, .int 0]]) := ⟨0, 7401502, 0, [], by decide, rfl⟩
theorem Row.tab_is_word {ds : List Int} {c : Cs} (h : Row K Wo ds c) : hasTab c 0 (tb K 0) "is_word.<locals>.<genexpr>" = true := by
  obtain ⟨p, s, r, cs, h1, rfl⟩ := h
  simp [cw, hasTab]
theorem Row.tab_are_rising {ds : List Int} {c : Cs} (h : Row K Wo ds c) : hasTab c 1 (tb K 1) "are_rising.<locals>.<genexpr>" = true := by
  obtain ⟨p, s, r, cs, h1, rfl⟩ := h
  simp [cw, hasTab]
theorem Row.tab_are_keys {ds : List Int} {c : Cs} (h : Row K Wo ds c) : hasTab c 2 (tb K 2) "are_keys.<locals>.<genexpr>" = true := by
  obtain ⟨p, s, r, cs, h1, rfl⟩ := h
  simp [cw, hasTab]
theorem Row.tab_is_rule {ds : List Int} {c : Cs} (h : Row K Wo ds c) : hasTab c 3 (tb K 3) "is_rule.<locals>.<genexpr>" = true := by
  obtain ⟨p, s, r, cs, h1, rfl⟩ := h
  simp [cw, hasTab]
theorem Row.tab__law_refused {ds : List Int} {c : Cs} (h : Row K Wo ds c) : hasTab c 4 (tb K 4) "_law_refused.<locals>.<lambda>" = true := by
  obtain ⟨p, s, r, cs, h1, rfl⟩ := h
  simp [cw, hasTab]
theorem Row.app {ds : List Int} {c x : Cs} (h : Row K Wo ds c) : Row K Wo ds (c ++ x) := by
  obtain ⟨p, s, r, cs, h1, rfl⟩ := h
  exact ⟨p, s, r, cs ++ x, h1, rfl⟩
theorem taken_ok {ds : List Int} {c : Cs} {m : Int} (h : Row K Wo ds c) (h0 : 0 < m) (h1 : m < 1073741824) :
    ∃ v c', F__law_taken K Wo [.cel 5, .int m] c = .ok (.int v) c' ∧ 0 ≤ v ∧ v < m ∧ Row K Wo ds c' := by
  obtain ⟨p, s, r, cs, hp, rfl⟩ := h
  by_cases hr : r > 0
  · refine ⟨r % m, cw K ds p s (r / m) cs, ?_, Int.emod_nonneg _ (by omega), Int.emod_lt_of_pos _ h0, _, _, _, _, hp, rfl⟩
    simp [F__law_taken, mkF, startD, b__law_taken, sSeq, sIf, tsE, eOp, eVar, eC, oIx, cw, seqOf, atI4_0, atI4_1, atI4_2, atI4_3, oGt, hr, Res.toS, SR.bind, sAsg, gtName, eCall, aCons, aNil, fInt, oMod, oI, h0, h1, oDiv, gtSub, celOf, ixN, sRet, fin]
  by_cases hl : p + 1 > ds.length
  · refine ⟨((s * 48271 + 11) % 2147483647) / 7 % m, cw K ds (p + 1) ((s * 48271 + 11) % 2147483647) r cs, ?_, Int.emod_nonneg _ (by omega), Int.emod_lt_of_pos _ h0, _, _, _, _, by omega, rfl⟩
    simp [F__law_taken, mkF, startD, b__law_taken, sSeq, sIf, tsE, eOp, eVar, eC, oIx, cw, seqOf, atI4_0, atI4_1, atI4_2, atI4_3, oGt, hr, hl, Res.toS, SR.bind, sAsg, gtName, eCall, aCons, aNil, fInt, fLen, oMod, oI, oAdd, oMulB, oMulA, oMul, h0, h1, oDiv, gtSub, celOf, ixN, sRet, fin, sNext]
  · obtain ⟨z, hz⟩ := atI_ints (ds := ds) hp (by omega)
    by_cases hg : z ≥ 1000000000000000000
    · refine ⟨z % m, cw K ds (p + 1) ((s * 48271 + z + 11) % 2147483647) (z / m) cs, ?_, Int.emod_nonneg _ (by omega), Int.emod_lt_of_pos _ h0, _, _, _, _, by omega, rfl⟩
      simp [F__law_taken, mkF, startD, b__law_taken, sSeq, sIf, tsE, eOp, eVar, eC, oIx, cw, seqOf, atI4_0, atI4_1, atI4_2, atI4_3, hz, oGt, oGe, oPow, oSub, hg, hr, hl, Res.toS, SR.bind, sAsg, gtName, eCall, aCons, aNil, fInt, fLen, oMod, oI, oAdd, oMulB, oMulA, oMul, h0, h1, oDiv, gtSub, celOf, ixN, sRet, fin, sNext]
    · refine ⟨z % m, cw K ds (p + 1) ((s * 48271 + z + 11) % 2147483647) r cs, ?_, Int.emod_nonneg _ (by omega), Int.emod_lt_of_pos _ h0, _, _, _, _, by omega, rfl⟩
      simp [F__law_taken, mkF, startD, b__law_taken, sSeq, sIf, tsE, eOp, eVar, eC, oIx, cw, seqOf, atI4_0, atI4_1, atI4_2, atI4_3, hz, oGt, oGe, oPow, oSub, hg, hr, hl, Res.toS, SR.bind, sAsg, gtName, eCall, aCons, aNil, fInt, fLen, oMod, oI, oAdd, oMulB, oMulA, oMul, h0, h1, oDiv, gtSub, celOf, ixN, sRet, fin, sNext]
theorem pick_ok {ds : List Int} {c : Cs} {l : List D} (h : Row K Wo ds c) (h0 : 0 < l.length) (h1 : l.length < 1073741824) :
    ∃ d c', F__law_pick K Wo [.cel 5, .lst l] c = .ok d c' ∧ d ∈ l ∧ Row K Wo ds c' := by
  obtain ⟨v, c', e, h2, h3, h4⟩ := taken_ok (m := l.length) h (by omega) (by omega)
  obtain ⟨n, h5, rfl, e2⟩ := atI_int (xs := l) h2 h3
  refine ⟨l[n], c', ?_, List.getElem_mem h5, h4⟩
  simp [F__law_pick, mkF, startD, b__law_pick, sRet, eOp, eVar, eCall, aCons, aNil, fLen, seqOf, e, oIx, e2, Res.toS, fin]
/-- .. out of the letters of a text -/
theorem pickS_ok {ds : List Int} {c : Cs} {x : Str} (h : Row K Wo ds c) (h0 : 0 < x.length) (h1 : x.length ≤ 100000) :
    ∃ d c', F__law_pick K Wo [.cel 5, .str x] c = .ok (.str ⟨#[d]⟩) c' ∧ d ∈ x.cps.toList ∧ Row K Wo ds c' := by
  obtain ⟨v, c', e, h2, h3, h4⟩ := taken_ok (m := x.length) h (by omega) (by omega)
  obtain ⟨n, h5, rfl, e2⟩ := atI_int (xs := x.cps.toList) h2 (by simpa [Str.length] using h3)
  refine ⟨x.cps.toList[n], c', ?_, List.getElem_mem h5, h4⟩
  simp [F__law_pick, mkF, startD, b__law_pick, sRet, eOp, eVar, eCall, aCons, aNil, fLen, seqOf, e, h1, oIx, e2, Res.toS, fin]
theorem family_ok {ds : List Int} {c : Cs} (h : Row K Wo ds c) :
    ∃ f c', F__law_family K Wo [.cel 5] c = .ok (.str f) c' ∧ (f = "numbers" ∨ f = "words") ∧ Row K Wo ds c' := by
  obtain ⟨d, c', e, h1, h2⟩ := pick_ok (l := [.str "numbers", .str "words"]) h (by decide) (by decide)
  simp at h1
  rcases h1 with rfl | rfl
  · refine ⟨"numbers", c', ?_, .inl rfl, h2⟩
    simp [F__law_family, mkF, startD, b__law_family, sRet, eVar, eC, eCall, eLst, aCons, aNil, e, Res.toS, fin]
  · refine ⟨"words", c', ?_, .inr rfl, h2⟩
    simp [F__law_family, mkF, startD, b__law_family, sRet, eVar, eC, eCall, eLst, aCons, aNil, e, Res.toS, fin]
theorem word_ok {ds : List Int} {c : Cs} (h : Row K Wo ds c) :
    ∃ w c', F__law_word K Wo [.cel 5] c = .ok (.str (SX.S w)) c' ∧ Wd w ∧ Row K Wo ds c' := by
  obtain ⟨d, c1, e1, h1, hr1⟩ := pick_ok (l := [Str.ofString "a", Str.ofString "ab", Str.ofString "ab", Str.ofString "abc", Str.ofString "aqz", Str.ofString "abcdefghijklmnopqrstuvwxyz"].map D.str) h (by decide) (by decide)
  obtain ⟨x, hx, rfl⟩ := List.mem_map.mp h1
  obtain ⟨hx1, hx2⟩ := bases_ok x hx
  obtain ⟨d2, c2, e2, h2, hr2⟩ := pick_ok (l := [.int 1, .int 3, .int 4, .int 12]) hr1 (by decide) (by decide)
  obtain ⟨m, rfl, hm⟩ : ∃ m : Int, d2 = .int m ∧ 0 < m ∧ m ≤ 12 := by
    simp at h2
    rcases h2 with rfl | rfl | rfl | rfl <;> exact ⟨_, rfl, by decide, by decide⟩
  obtain ⟨v, c3, e3, h3, h4, hr3⟩ := taken_ok (m := m) hr2 hm.1 (by omega)
  obtain ⟨ys, c4, e4, h5, h6, hr4⟩ := compL_inv (j := 3) (f := eCall (F__law_pick K Wo) (aCons (eVar 0) (aCons (eVar 1) aNil))) (s0 := [some (.cel 5), some (.str x), some (.int (1 + v)), none]) (Row K Wo ds) (fun y => ∃ k, y = .str (SX.S [k]) ∧ 97 ≤ k ∧ k ≤ 122)
    (ds := rngC 0 1 (1 + v).toNat) (acc := []) (c := c3) (by rw [rngC_len]; simp; omega) hr3 (fun d _ c hc => by
      obtain ⟨k, c', e, hk, hr⟩ := pickS_ok (x := x) hc hx1.1 hx1.2
      exact ⟨_, c', by simp [eCall, aCons, aNil, eVar, e], ⟨k, rfl, hx2 k hk⟩, hr⟩)
  obtain ⟨w, rfl, hw⟩ := ones_of h6
  rw [rngC_len, List.length_map] at h5
  refine ⟨w, c4, ?_, ⟨by omega, by omega, hw⟩, hr4⟩
  have hcomp : eComp (fRng1 (aCons (eVar 2) aNil)) (Tg.nm 3) (fun x c => Res.ok true c) (eCall (F__law_pick K Wo) (aCons (eVar 0) (aCons (eVar 1) aNil))) [3] [some (D.cel 5), some (D.str x), some (D.int (1 + v)), none] c3 = .ok (.lst (w.map fun k => .str (SX.S [k]))) c4 := by
    have hb : -(2 ^ 62) ≤ 1 + v ∧ 1 + v < 2 ^ 62 := by omega
    simp only [eComp, fRng1, aCons, aNil, eVar, wipeD, Res.bind_ok, List.getElem?_cons_succ, List.getElem?_cons_zero, if_pos hb, List.set_cons_succ, List.set_cons_zero, e4, List.nil_append]
  have hj := eJoin_ones (f := eC (.str (Str.ofString ""))) (c := c3) rfl hcomp (by omega)
  simp at e1
  simp [F__law_word, mkF, startD, b__law_word, sSeq, sAsg, gtName, eVar, eC, eCall, eLst, aCons, aNil, e1, e2, e3, Res.toS, SR.bind, eOp, oAdd, sRet]
  rw [hj]
  rfl
theorem key_ok {ds : List Int} {c : Cs} {f : Str} (h : Row K Wo ds c) (hf : f = "numbers" ∨ f = "words") :
    ∃ d c', F__law_key K Wo [.cel 5, .str f] c = .ok d c' ∧ IsKey f d ∧ Row K Wo ds c' := by
  rcases hf with rfl | rfl
  · obtain ⟨d1, c1, e1, h1, hr1⟩ := pick_ok (l := [.int 8, .int 20, .int 300, .int 65536]) h (by decide) (by decide)
    obtain ⟨m, rfl, hm⟩ : ∃ m : Int, d1 = .int m ∧ 0 < m ∧ m ≤ 65536 := by
      simp at h1
      rcases h1 with rfl | rfl | rfl | rfl <;> exact ⟨_, rfl, by decide, by decide⟩
    obtain ⟨v, c2, e2, h2, h3, hr2⟩ := taken_ok (m := m) hr1 hm.1 (by omega)
    obtain ⟨d3, c3, e3, h4, hr3⟩ := pick_ok (l := [.int 1, .int 1, .int 16, .int 257]) hr2 (by decide) (by decide)
    obtain ⟨n, rfl, hn⟩ : ∃ n : Int, d3 = .int n ∧ 0 < n ∧ n ≤ 257 := by
      simp at h4
      rcases h4 with rfl | rfl | rfl <;> exact ⟨_, rfl, by decide, by decide⟩
    have hz : 0 ≤ v * n % 65536 := Int.emod_nonneg _ (by decide)
    have hz2 : v * n % 65536 < 65536 := Int.emod_lt_of_pos _ (by decide)
    obtain ⟨k, hk⟩ := Int.eq_ofNat_of_zero_le hz
    refine ⟨.int (v * n % 65536), c3, ?_, .inl ⟨rfl, k, by rw [hk], by omega⟩, hr3⟩
    have hb : v < 18446744073709551616 := by omega
    have hb2 : -18446744073709551616 < v := by omega
    simp [F__law_key, mkF, startD, b__law_key, sSeq, sIf, tsE, sAsg, gtName, eVar, eC, eCall, eLst, aCons, aNil, eq_nw, e1, e2, e3, Res.toS, SR.bind, eOp, oMulB, oMulA, oMul, oMod, oI, sRet, sNext, fin, hb, hb2]
  · obtain ⟨w, c1, e1, h1, hr1⟩ := word_ok h
    refine ⟨_, c1, ?_, .inr ⟨rfl, w, rfl, h1⟩, hr1⟩
    simp [F__law_key, mkF, startD, b__law_key, sSeq, sIf, tsE, sAsg, gtName, eVar, eC, eCall, eLst, aCons, aNil, eq_ww, e1, Res.toS, SR.bind, eOp, sRet, sNext, fin]
theorem pick_call {ds : List Int} {f : FE} {s : Sl} {c : Cs} {l : List D} (h : f s c = .ok (.lst l) c) (hr : Row K Wo ds c) (h0 : s[0]? = some (some (.cel 5))) (hl : 0 < l.length) (hl2 : l.length < 1073741824) :
    ∃ d c', eCall (F__law_pick K Wo) (aCons (eVar 0) (aCons f aNil)) s c = .ok d c' ∧ d ∈ l ∧ Row K Wo ds c' := by
  obtain ⟨d, c', e, h1, h2⟩ := pick_ok hr hl hl2
  refine ⟨d, c', ?_, h1, h2⟩
  simp only [eCall, aCons, aNil, eVar, h0, h, Res.bind_ok, e]

theorem row_num {k : Nat} {c : Cs} : F_row_of K Wo [.str "numbers", .int k] c = .ok (.tup (nats (Ky.num k).lts)) c := by
  have e : eComp (fRng3 (aCons (eOp oSub (eC (D.int 16)) (eC (D.int 4))) (aCons (eNeg (eC (D.int 1))) (aCons (eNeg (eC (D.int 4))) aNil)))) (Tg.nm 2) (fun x c => Res.ok true c) (eOp oAnd (eOp oShr (eVar 1) (eVar 2)) (eC (D.int 15))) [2]
      [some (D.str (Str.ofString "numbers")), some (D.int ↑k), none, none] c = .ok (.lst (nats (Ky.num k).lts)) c := by
    have e0 : ∀ s, fRng3 (aCons (eOp oSub (eC (D.int 16)) (eC (D.int 4))) (aCons (eNeg (eC (D.int 1))) (aCons (eNeg (eC (D.int 4))) aNil))) s c = .ok [.int 12, .int 8, .int 4, .int 0] c := fun s => rfl
    have b0 : ∀ n : Nat, Builtin.bitAnd ((k : Int) / (n : Int)) 15 = ((k / n % 16 : Nat) : Int) := fun n => by
      have := band15 (k / n)
      rwa [Int.natCast_ediv] at this
    have b1 : Builtin.bitAnd ((k : Int) / 4096) 15 = ((k / 4096 % 16 : Nat) : Int) := b0 4096
    have b2 : Builtin.bitAnd ((k : Int) / 256) 15 = ((k / 256 % 16 : Nat) : Int) := b0 256
    have b3 : Builtin.bitAnd ((k : Int) / 16) 15 = ((k / 16 % 16 : Nat) : Int) := b0 16
    have b4 := band15 k
    simp [eComp, e0, compL, Tg.set, wipeD, eOp, eVar, eC, oShr, oAnd, oI, nats, Ky.lts, b1, b2, b3, b4]
  simp [F_row_of, mkF, startD, b_row_of, sSeq, sIf, tsE, eVar, eC, eq_nn, Res.toS, SR.bind, eOp, sRet, fin, eTupOf]
  rw [e]
  rfl
theorem row_wrd {w : List Nat} {c : Cs} (h : Wd w) : F_row_of K Wo [.str "words", .str (SX.S w)] c = .ok (.tup (nats (Ky.wrd w).lts)) c := by
  have e : eComp (fSeq (eVar 1)) (Tg.nm 3) (fun x c => Res.ok true c)
      (eOp oAdd (eIdx (eC (D.str (Str.ofString "abcdefghijklmnopqrstuvwxyz"))) (eVar 3)) (eC (D.int 1))) [3]
      [some (D.str (Str.ofString "words")), some (D.str (SX.S w)), none, none] c = .ok (.lst ((nats (w.map (· - 96))))) c := by
    have hw : ∀ k ∈ w, 97 ≤ k ∧ k ≤ 122 := h.al
    rw [eComp_map (c1 := c) (ds := w.map fun k => D.str (SX.S [k])) (fun d => match d with | .str x => .int (((x.cps[0]?).getD 0 - 96 : Nat) : Int) | d => d) (by simp [fSeq, eVar, walkD, signs_S]) (by have := h.hi; simp; omega) ?_]
    · simp [nats]
    · intro d hd
      obtain ⟨k, hk, rfl⟩ := List.mem_map.mp hd
      have e1 := eIdx_al (f := eC (.str (Str.ofString "abcdefghijklmnopqrstuvwxyz"))) (g := eVar 3) (s := [some (D.str (Str.ofString "words")), some (D.str (SX.S w)), none, some (.str (SX.S [k]))]) (c := c) rfl rfl (hw k hk)
      have := hw k hk
      simp [wipeD, eOp, e1, eC, oAdd]
      omega
  simp [F_row_of, mkF, startD, b_row_of, sSeq, sIf, tsE, eVar, eC, eq_wn, Res.toS, SR.bind, eOp, sRet, fin, eTupOf, sNext]
  rw [e]
  have hl : w.length + 1 ≤ 100000 := by have := h.hi; omega
  simp [eLst, aCons, aNil, eC, oAdd, RL.listOf, oTupOf, seqOf, Ky.lts, nats, hl]
theorem row_ok {y : Ky} {c : Cs} (h : y.Ok) : F_row_of K Wo [.str y.fam, y.dat] c = .ok (.tup (nats y.lts)) c := by
  cases y with
  | num k => exact row_num
  | wrd w => exact row_wrd h

theorem let_num {k : Nat} {c : Cs} : F__law_letters K Wo [.str "numbers", .int k] c = .ok (.tup (nats (Ky.num k).lts)) c := by
  simp [F__law_letters, mkF, startD, b__law_letters, sSeq, sIf, tsE, eVar, eC, eq_nn, Res.toS, SR.bind, eOp, sRet, fin, eTupOf, eComp, eTup, fSeq, walkD, aCons, aNil, compL, Tg.set, wipeD, oDiv, oMod, oI, nats, Ky.lts, oTupOf, seqOf]
theorem let_wrd {w : List Nat} {c : Cs} (h : Wd w) : F__law_letters K Wo [.str "words", .str (SX.S w)] c = .ok (.tup (nats (Ky.wrd w).lts)) c := by
  have e : eComp (fSeq (eVar 1)) (Tg.nm 3) (fun x c => Res.ok true c)
      (eOp oAdd (eIdx (eC (D.str (Str.ofString "abcdefghijklmnopqrstuvwxyz"))) (eVar 3)) (eC (D.int 1))) [3]
      [some (D.str (Str.ofString "words")), some (D.str (SX.S w)), none, none] c = .ok (.lst ((nats (w.map (· - 96))))) c := by
    have hw : ∀ k ∈ w, 97 ≤ k ∧ k ≤ 122 := h.al
    rw [eComp_map (c1 := c) (ds := w.map fun k => D.str (SX.S [k])) (fun d => match d with | .str x => .int (((x.cps[0]?).getD 0 - 96 : Nat) : Int) | d => d) (by simp [fSeq, eVar, walkD, signs_S]) (by have := h.hi; simp; omega) ?_]
    · simp [nats]
    · intro d hd
      obtain ⟨k, hk, rfl⟩ := List.mem_map.mp hd
      have e1 := eIdx_al (f := eC (.str (Str.ofString "abcdefghijklmnopqrstuvwxyz"))) (g := eVar 3) (s := [some (D.str (Str.ofString "words")), some (D.str (SX.S w)), none, some (.str (SX.S [k]))]) (c := c) rfl rfl (hw k hk)
      have := hw k hk
      simp [wipeD, eOp, e1, eC, oAdd]
      omega
  simp [F__law_letters, mkF, startD, b__law_letters, sSeq, sIf, tsE, eVar, eC, eq_wn, Res.toS, SR.bind, eOp, sRet, fin, eTupOf, sNext]
  rw [e]
  have hl : w.length + 1 ≤ 100000 := by have := h.hi; omega
  simp [eTup, aCons, aNil, eC, oAdd, RL.listOf, oTupOf, seqOf, Ky.lts, nats, hl]
theorem let_ok {y : Ky} {c : Cs} (h : y.Ok) : F__law_letters K Wo [.str y.fam, y.dat] c = .ok (.tup (nats y.lts)) c := by
  cases y with
  | num k => exact let_num
  | wrd w => exact let_wrd h

theorem check_t {nm : Str} {c : Cs} : F_check K Wo [.bl true, .str nm] c = .ok .non c := by
  simp [F_check, mkF, startD, b_check, sIf, tsNot, tsE, eVar, Res.toS, sNext, fin]
theorem check_f {nm : Str} {c : Cs} (h : nm.length ≤ 100000) : F_check K Wo [.bl false, .str nm] c = .err ⟨CB K, [("name", .str nm)]⟩ c := by
  simp [F_check, mkF, startD, b_check, sIf, tsNot, tsE, eVar, Res.toS, sRaise, h, fin]
theorem fam_t {y : Ky} {c : Cs} : F_is_family K Wo [.str y.fam] c = .ok (.bl true) c := by
  cases y <;> kernel_rfl
theorem isnum {i : Int} {c : Cs} : F_is_number K Wo [.int i, .int 0, .int 65535] c = .ok (.bl (decide (0 ≤ i) && decide (i ≤ 65535))) c := by
  by_cases h0 : 0 ≤ i
  · simp [F_is_number, mkF, startD, b_is_number, sRet, eAnd, eIsi, eVar, isiD, tyName, kt_int_int, kt_int_bool, eNot, eChain, oLe, Res.toS, fin, h0]
  · simp [F_is_number, mkF, startD, b_is_number, sRet, eAnd, eIsi, eVar, isiD, tyName, kt_int_int, kt_int_bool, eNot, eChain, oLe, Res.toS, fin, h0]
theorem isword {w : List Nat} {c : Cs} (hc : hasTab c 0 (tb K 0) "is_word.<locals>.<genexpr>" = true) (hl : w.length ≤ 100000) : F_is_word K Wo [.str (SX.S w)] c = .ok (.bl (decide (1 ≤ w.length) && decide (w.length ≤ 12) && w.all (fun k => decide (k ∈ AL)))) c := by
  have el : (SX.S w).length = w.length := SX.S_len w
  by_cases h0 : ¬ 1 ≤ w.length
  · have h0' : ¬ (1 : Int) ≤ (w.length : Int) := by omega
    simp [F_is_word, mkF, startD, b_is_word, sSeq, sIf, tsOr, tsNot, tsE, eIsi, eVar, eC, isiD, tyName, kt_str_str, eChain, oLe, eCall, aCons, aNil, fLen, el, hl, sRet, Res.toS, SR.bind, fin, h0, h0']
  have h0 : 1 ≤ w.length := by omega
  have h0' : (1 : Int) ≤ (w.length : Int) := by omega
  by_cases h1 : ¬ w.length ≤ 12
  · have h1' : ¬ (w.length : Int) ≤ 12 := by omega
    simp [F_is_word, mkF, startD, b_is_word, sSeq, sIf, tsOr, tsNot, tsE, eIsi, eVar, eC, isiD, tyName, kt_str_str, eChain, oLe, eCall, aCons, aNil, fLen, el, hl, sRet, Res.toS, SR.bind, fin, h0, h0', h1, h1']
  · have h1 : w.length ≤ 12 := by omega
    have e : eQ false 0 (tb K 0) "is_word.<locals>.<genexpr>" (fSeq (eVar 0)) (.nm 1) (eOp oIn (eVar 1) (eC (.str "abcdefghijklmnopqrstuvwxyz"))) [1] [some (.str (SX.S w)), none] c = .ok (.bl (w.all (fun k => decide (k ∈ AL)))) c := by
      have q := qL_all (j := 1) (f := eOp oIn (eVar 1) (eC (.str "abcdefghijklmnopqrstuvwxyz"))) (s0 := [some (.str (SX.S w)), none]) (q := fun d => decide (sgnD d ∈ AL)) (c := c) (ds := w.map fun k => D.str (SX.S [k])) (fun d hd => by
        obtain ⟨k, hk, rfl⟩ := List.mem_map.mp hd
        have e1 := SX.in_one AL k
        rw [← AB_eq] at e1
        simp only [eOp, eVar, eC, Res.bind_ok, List.set_cons_succ, List.set_cons_zero, List.getElem?_cons_succ, List.getElem?_cons_zero, oIn, inD, e1, sgnD]
        simp)
      simp only [eQ, fSeq, eVar, Res.bind_ok, List.getElem?_cons_zero, walkD, signs_S, hc, if_true, wipeD, List.set_cons_succ, List.set_cons_zero, q]
      simp [sgnD, List.all_map, Function.comp_def]
    have h1' : (w.length : Int) ≤ 12 := by omega
    simp [F_is_word, mkF, startD, b_is_word, sSeq, sIf, tsOr, tsNot, tsE, eIsi, eVar, eC, isiD, tyName, kt_str_str, eChain, oLe, eCall, aCons, aNil, fLen, el, hl, sRet, Res.toS, SR.bind, fin, h0, h1, h0', h1', sNext]
    rw [e]
theorem key_t {y : Ky} {c : Cs} (hc : hasTab c 0 (tb K 0) "is_word.<locals>.<genexpr>" = true) (h : y.Ok) : F_is_key K Wo [.str y.fam, y.dat] c = .ok (.bl true) c := by
  cases y with
  | num k =>
    have h' : k < 65536 := h
    have h1 : (k : Int) ≤ 65535 := by omega
    simp [Ky.fam, Ky.dat, F_is_key, mkF, startD, b_is_key, sRet, eIf, tsE, eOp, eVar, eC, eq_nn, eCall, aCons, aNil, isnum, Res.toS, fin, h1]
  | wrd w =>
    have h' : Wd w := h
    have e := isword (K := K) (Wo := Wo) hc (w := w) (by have := h'.hi; omega)
    simp [h'.lo, h'.hi] at e
    have ea := all_al h'.al
    simp [Ky.fam, Ky.dat, F_is_key, mkF, startD, b_is_key, sRet, eIf, tsE, eOp, eVar, eC, eq_wn, eCall, aCons, aNil, e, Res.toS, fin]
    simpa using ea
theorem chk_t {X : FE} {nm : Str} {s : Sl} {c c1 : Cs} (h : X s c = .ok (.bl true) c1) : eCall (F_check K Wo) (aCons X (aCons (eC (.str nm)) aNil)) s c = .ok .non c1 := by
  simp only [eCall, aCons, aNil, h, eC, Res.bind_ok, check_t]
theorem chk_f {X : FE} {nm : Str} {s : Sl} {c c1 : Cs} (h : X s c = .ok (.bl false) c1) (hn : nm.length ≤ 100000) : eCall (F_check K Wo) (aCons X (aCons (eC (.str nm)) aNil)) s c = .err (badD K nm) c1 := by
  simp only [eCall, aCons, aNil, h, eC, Res.bind_ok, check_f hn]

theorem alike_non {R : FN} {c : Cs} : mkF 2 4 (b__law_alike K Wo R) [.non, .non] c = .ok (.bl true) c := by
  simp [mkF, startD, b__law_alike, sSeq, sIf, tsE, tsOr, tsNot, eIsi, eVar, eC, isiD, tyName, kt_NoneType_tl, kt_NoneType_dict, kt_NoneType_str, eOp, oIsN, sRet, eAnd, eq_non, eq_bl, Res.toS, SR.bind, sNext, fin]
theorem alike_bl {R : FN} {c : Cs} {b : Bool} : mkF 2 4 (b__law_alike K Wo R) [.bl b, .bl b] c = .ok (.bl true) c := by
  simp [mkF, startD, b__law_alike, sSeq, sIf, tsE, tsOr, tsNot, eIsi, eVar, eC, isiD, tyName, kt_bool_tl, kt_bool_dict, kt_bool_str, kt_bool_int, kt_bool_bool, eOp, oIsN, sRet, eAnd, eq_bl, Res.toS, SR.bind, sNext, fin]
theorem alike_int {R : FN} {c : Cs} {i : Int} : mkF 2 4 (b__law_alike K Wo R) [.int i, .int i] c = .ok (.bl true) c := by
  simp [mkF, startD, b__law_alike, sSeq, sIf, tsE, tsOr, tsNot, eIsi, eVar, eC, isiD, tyName, kt_int_tl, kt_int_dict, kt_int_str, kt_int_int, kt_int_bool, eOp, oIsN, sRet, eAnd, eq_bl, RL.eq_int, Res.toS, SR.bind, sNext, fin]
theorem alike_str {R : FN} {c : Cs} {x : Str} (h1 : PyData.strOk x = true) : mkF 2 4 (b__law_alike K Wo R) [.str x, .str x] c = .ok (.bl true) c := by
  simp [mkF, startD, b__law_alike, sSeq, sIf, tsE, tsOr, tsNot, eIsi, eVar, eC, isiD, tyName, kt_str_tl, kt_str_dict, kt_str_str, kt_str_int, kt_str_bool, eOp, oIsN, sRet, eAnd, eq_bl, eq_str h1 h1, Res.toS, SR.bind, sNext, fin]
theorem alike_tup {R : FN} {c : Cs} {l : List D} (h1 : l.length ≤ 100000) (ih : ∀ x ∈ l, R [x, x] c = .ok (.bl true) c) : mkF 2 4 (b__law_alike K Wo R) [.tup l, .tup l] c = .ok (.bl true) c := by
  have hst : startD 2 4 [.tup l, .tup l] = [some (.tup l), some (.tup l), none, none] := rfl
  have er := tup_er h1 ih
  have h2 : [D.tup l, D.tup l].length = 2 := rfl
  have t1 : tsE (eIsi (eVar 1) ["tuple", "list"]) [some (.tup l), some (.tup l), none, none] c = .ok true c := by rw [tsE, tup_e1 kt_tuple_tl, Res.bind_ok]
  have t0 : tsE (eIsi (eVar 0) ["tuple", "list"]) [some (.tup l), some (.tup l), none, none] c = .ok true c := by rw [tsE, tup_e0 kt_tuple_tl, Res.bind_ok]
  have t5 : tsE (eOp oNe (eIsi (eVar 0) ["list"]) (eIsi (eVar 1) ["list"])) [some (.tup l), some (.tup l), none, none] c = .ok false c := by rw [tsE, tup_e5, Res.bind_ok]
  have tl : tsE (eOp oNe (eCall fLen (aCons (eVar 0) aNil)) (eCall fLen (aCons (eVar 1) aNil))) [some (.tup l), some (.tup l), none, none] c = .ok false c := by rw [tsE, tup_el, Res.bind_ok]
  unfold mkF
  rw [if_pos h2, hst]
  rw [b__law_alike, sSeq_rt (sIf_t t1 |>.trans ((sSeq_nx (sIf_fn (tsOr_ff (tsNot_t t0) t5))).trans ((sSeq_nx (sIf_fn tl)).trans (sRet_ok er))))]
  rfl
theorem alike_lst {R : FN} {c : Cs} {l : List D} (h1 : l.length ≤ 100000) (ih : ∀ x ∈ l, R [x, x] c = .ok (.bl true) c) : mkF 2 4 (b__law_alike K Wo R) [.lst l, .lst l] c = .ok (.bl true) c := by
  have hst : startD 2 4 [.lst l, .lst l] = [some (.lst l), some (.lst l), none, none] := rfl
  have er := lst_er h1 ih
  have h2 : [D.lst l, D.lst l].length = 2 := rfl
  have t1 : tsE (eIsi (eVar 1) ["tuple", "list"]) [some (.lst l), some (.lst l), none, none] c = .ok true c := by rw [tsE, lst_e1 kt_list_tl, Res.bind_ok]
  have t0 : tsE (eIsi (eVar 0) ["tuple", "list"]) [some (.lst l), some (.lst l), none, none] c = .ok true c := by rw [tsE, lst_e0 kt_list_tl, Res.bind_ok]
  have t5 : tsE (eOp oNe (eIsi (eVar 0) ["list"]) (eIsi (eVar 1) ["list"])) [some (.lst l), some (.lst l), none, none] c = .ok false c := by rw [tsE, lst_e5, Res.bind_ok]
  have tl : tsE (eOp oNe (eCall fLen (aCons (eVar 0) aNil)) (eCall fLen (aCons (eVar 1) aNil))) [some (.lst l), some (.lst l), none, none] c = .ok false c := by rw [tsE, lst_el, Res.bind_ok]
  unfold mkF
  rw [if_pos h2, hst]
  rw [b__law_alike, sSeq_rt (sIf_t t1 |>.trans ((sSeq_nx (sIf_fn (tsOr_ff (tsNot_t t0) t5))).trans ((sSeq_nx (sIf_fn tl)).trans (sRet_ok er))))]
  rfl
theorem alike_refl : ∀ (n : Nat) (d : D) (c : Cs), Pl n d → F__law_alike K Wo n [d, d] c = .ok (.bl true) c := by
  intro n
  induction n with
  | zero => intro d c h; cases h
  | succ n ih =>
    intro d c h
    show mkF 2 4 (b__law_alike K Wo (F__law_alike K Wo n)) [d, d] c = _
    cases h with
    | non => exact alike_non
    | bl => exact alike_bl
    | int => exact alike_int
    | str h1 => exact alike_str h1
    | tup h1 h2 => exact alike_tup h1 fun x hx => ih x c (h2 x hx)
    | lst h1 h2 => exact alike_lst h1 fun x hx => ih x c (h2 x hx)
theorem alike_call {n : Nat} {f g : FE} {s : Sl} {c c1 c2 : Cs} {d : D} (h1 : f s c = .ok d c1) (h2 : g s c1 = .ok d c2) (p : Pl n d) : eCall (F__law_alike K Wo n) (aCons f (aCons g aNil)) s c = .ok (.bl true) c2 := by
  simp only [eCall, aCons, aNil, h1, h2, Res.bind_ok, alike_refl n d c2 p]
theorem alike_not {n : Nat} {f g : FE} {s : Sl} {c c1 c2 : Cs} {d : D} (h1 : f s c = .ok d c1) (h2 : g s c1 = .ok d c2) (p : Pl n d) : tsNot (tsE (eCall (F__law_alike K Wo n) (aCons f (aCons g aNil)))) s c = .ok false c2 := by
  refine tsNot_t ?_
  rw [tsE, alike_call h1 h2 p, Res.bind_ok]

end K02

set_option Elab.async false
set_option linter.all false
set_option maxRecDepth 100000
set_option maxHeartbeats 4000000
/-! ## rules -/
namespace K02
open PySem PySem.Spec PyProof.Rows L2 RL
variable {K : PySem.W.Frag} {Wo : World}
inductive Ru where
  | rk (l : List Nat) (b : Bool) | pg (m : Nat) | pl (i : Fin 4)
def plS : Fin 4 → Str
  | 0 => "come" | 1 => "levels" | 2 => "bits" | 3 => "starts"
def byS (b : Bool) : Str := if b = true then "key" else "came"
def Ru.dat : Ru → D
  | .rk l b => .tup [.str "ranks", .tup (nats l), .str (byS b)]
  | .pg m => .tup [.str "pages", .int (m : Nat)]
  | .pl i => .tup [.str (plS i)]
structure Rks (l : List Nat) : Prop where
  lo : 1 ≤ l.length
  hi : l.length ≤ 12
  al : ∀ k ∈ l, k ≤ 99
def Ru.Ok : Ru → Prop
  | .rk l _ => Rks l
  | .pg m => 1 ≤ m ∧ m ≤ 4
  | .pl _ => True
theorem isnumG {i lo hi : Int} {c : Cs} : F_is_number K Wo [.int i, .int lo, .int hi] c = .ok (.bl (decide (lo ≤ i) && decide (i ≤ hi))) c := by
  by_cases h0 : lo ≤ i
  · simp [F_is_number, mkF, startD, b_is_number, sRet, eAnd, eIsi, eVar, isiD, tyName, kt_int_int, kt_int_bool, eNot, eChain, oLe, Res.toS, fin, h0]
  · simp [F_is_number, mkF, startD, b_is_number, sRet, eAnd, eIsi, eVar, isiD, tyName, kt_int_int, kt_int_bool, eNot, eChain, oLe, Res.toS, fin, h0]
abbrev TR (K : PySem.W.Frag) (c : Cs) : Prop := hasTab c 3 (tb K 3) "is_rule.<locals>.<genexpr>" = true
theorem isr_rk {L : List D} {b : Bool} {q : D → Bool} {c : Cs} (ht : TR K c) (h1 : 1 ≤ L.length) (h2 : L.length ≤ 12) (hq : ∀ d ∈ L, F_is_number K Wo [d, .int 0, .int 99] c = .ok (.bl (q d)) c) :
    F_is_rule K Wo [.tup [.str "ranks", .tup L, .str (byS b)]] c = .ok (.bl (L.all q)) c := by
  have hlen : tsOr (tsNot (tsE (eIsi (eVar 1) ["tuple"]))) (tsNot (tsE (eChain oLe oLe (eC (.int 1)) (eCall fLen (aCons (eVar 1) aNil)) (eC (.int 12))))) [some (.tup [.str "ranks", .tup L, .str (byS b)]), some (.tup L), none] c = .ok false c := by
    have e1 : (1 : Int) ≤ (L.length : Int) := by omega
    have e2 : (L.length : Int) ≤ 12 := by omega
    simp [tsOr, tsNot, tsE, eIsi, eVar, isiD, tyName, kt_tuple_tuple, eChain, eC, eCall, aCons, aNil, fLen, seqOf, oLe, e1, e2]
  have hQ : eQ false 3 (tb K 3) "is_rule.<locals>.<genexpr>" (fSeq (eVar 1)) (.nm 2) (eCall (F_is_number K Wo) (aCons (eVar 2) (aCons (eC (.int 0)) (aCons (eC (.int 99)) aNil)))) [2] [some (.tup [.str "ranks", .tup L, .str (byS b)]), some (.tup L), none] c = .ok (.bl (L.all q)) c :=
    eQ_all rfl ht fun d hd => by
      have e := hq d hd
      simp [eCall, aCons, aNil, eVar, eC, wipeD, e]
  have key : b_is_rule K Wo [some (.tup [.str "ranks", .tup L, .str (byS b)]), none, none] c = .rt (.bl (L.all q)) c := by
    unfold b_is_rule
    cases b
    · refine (sSeq_nx (sIf_fn (c1 := c) (by kernel_rfl))).trans ?_
      refine (sSeq_nx (sIf_fn (c1 := c) (by kernel_rfl))).trans ?_
      refine (sSeq_nx (sIf_fn (c1 := c) (by kernel_rfl))).trans ?_
      refine (sSeq_nx (sIf_fn (c1 := c) (by kernel_rfl))).trans ?_
      refine (sSeq_nx (sAsg_nm (d := .tup L) (c1 := c) (by kernel_rfl))).trans ?_
      refine (sSeq_nx (sIf_fn hlen)).trans ?_
      exact sRet_ok hQ
    · refine (sSeq_nx (sIf_fn (c1 := c) (by kernel_rfl))).trans ?_
      refine (sSeq_nx (sIf_fn (c1 := c) (by kernel_rfl))).trans ?_
      refine (sSeq_nx (sIf_fn (c1 := c) (by kernel_rfl))).trans ?_
      refine (sSeq_nx (sIf_fn (c1 := c) (by kernel_rfl))).trans ?_
      refine (sSeq_nx (sAsg_nm (d := .tup L) (c1 := c) (by kernel_rfl))).trans ?_
      refine (sSeq_nx (sIf_fn hlen)).trans ?_
      exact sRet_ok hQ
  unfold F_is_rule
  rw [mkF_1]
  show fin (b_is_rule K Wo [some (.tup [.str "ranks", .tup L, .str (byS b)]), none, none] c) = _
  rw [key]; rfl
theorem rule_t {u : Ru} {c : Cs} (ht : TR K c) (h : u.Ok) : F_is_rule K Wo [u.dat] c = .ok (.bl true) c := by
  cases u with
  | rk l b =>
    have h' : Rks l := h
    have e := isr_rk (Wo := Wo) (L := nats l) (b := b) (q := fun _ => true) ht (by rw [nats_len]; exact h'.lo) (by rw [nats_len]; exact h'.hi) (fun d hd => by
      obtain ⟨k, hk, rfl⟩ := List.mem_map.mp hd
      have := h'.al k hk
      rw [isnumG]
      have e1 : (0 : Int) ≤ (k : Int) := by omega
      have e2 : (k : Int) ≤ 99 := by omega
      simp [e1, e2])
    have e3 : (nats l).all (fun _ => true) = true := by simp
    rw [e3] at e
    exact e
  | pg m =>
    obtain ⟨h1, h2⟩ := h
    have : m = 1 ∨ m = 2 ∨ m = 3 ∨ m = 4 := by omega
    rcases this with rfl | rfl | rfl | rfl <;> kernel_rfl
  | pl i =>
    have : i = 0 ∨ i = 1 ∨ i = 2 ∨ i = 3 := by omega
    rcases this with rfl | rfl | rfl | rfl <;> kernel_rfl
/-- what is no rule -/
def nrA : List D := [.non, .tup [], .str "come", .lst [.str "come"], .tup [.str "come", .int 1], .tup [.str "levels", .tup []], .tup [.str "pages"], .tup [.str "pages", .int 0], .tup [.str "pages", .int 5], .tup [.str "pages", .bl true], .tup [.str "ranks"], .tup [.int 0]]
def nrB : List D := [.tup [.str "ranks", .tup [], .str "key"], .tup [.str "ranks", .tup (List.replicate 13 (.int 1)), .str "key"], .tup [.str "ranks", .tup [.int 100], .str "came"], .tup [.str "ranks", .tup [.int (-1)], .str "key"], .tup [.str "ranks", .lst [.int 1], .str "key"]]
def nrC : List D := [.tup [.str "ranks", .tup [.int 1], .str "keys"], .tup [.str "ranks", .tup [.int 1], .str "key", .int 0], .tup [.str "ranks", .tup [.bl true], .str "key"], .tup [.str "ranks", .tup [.int 1], .non]]
def NoRule (d : D) : Prop := d ∈ (nrA ++ nrB) ++ nrC
theorem rule_f {d : D} {c : Cs} (ht : TR K c) (h : NoRule d) : F_is_rule K Wo [d] c = .ok (.bl false) c := by
  have h100 : F_is_rule K Wo [.tup [.str "ranks", .tup [.int 100], .str "came"]] c = .ok (.bl false) c :=
    isr_rk (Wo := Wo) (L := [.int 100]) (b := false) (q := fun _ => false) ht (by decide) (by decide) (fun d hd => by
      simp at hd; subst hd; kernel_rfl)
  have hm1 : F_is_rule K Wo [.tup [.str "ranks", .tup [.int (-1)], .str "key"]] c = .ok (.bl false) c :=
    isr_rk (Wo := Wo) (L := [.int (-1)]) (b := true) (q := fun _ => false) ht (by decide) (by decide) (fun d hd => by
      simp at hd; subst hd; kernel_rfl)
  have htr : F_is_rule K Wo [.tup [.str "ranks", .tup [.bl true], .str "key"]] c = .ok (.bl false) c :=
    isr_rk (Wo := Wo) (L := [.bl true]) (b := true) (q := fun _ => false) ht (by decide) (by decide) (fun d hd => by
      simp at hd; subst hd; kernel_rfl)
  simp only [NoRule, nrA, nrB, nrC, List.cons_append, List.nil_append, List.mem_cons, List.not_mem_nil, or_false] at h
  rcases h with rfl | rfl | rfl | rfl | rfl | rfl | rfl | rfl | rfl | rfl | rfl | rfl | rfl | rfl | rfl | rfl | rfl | rfl | rfl | rfl | rfl
  · kernel_rfl
  · kernel_rfl
  · kernel_rfl
  · kernel_rfl
  · kernel_rfl
  · kernel_rfl
  · kernel_rfl
  · kernel_rfl
  · kernel_rfl
  · kernel_rfl
  · kernel_rfl
  · kernel_rfl
  · kernel_rfl
  · kernel_rfl
  · exact h100
  · exact hm1
  · kernel_rfl
  · kernel_rfl
  · kernel_rfl
  · exact htr
  · kernel_rfl
/-! draws -/
theorem nats_of : ∀ {ys : List D}, (∀ y ∈ ys, ∃ k : Nat, y = .int (k : Nat) ∧ k ≤ 99) → ∃ l : List Nat, ys = nats l ∧ ∀ k ∈ l, k ≤ 99
  | [], _ => ⟨[], rfl, by simp⟩
  | y :: ys, h => by
    obtain ⟨k, rfl, h1⟩ := h y List.mem_cons_self
    obtain ⟨w, rfl, h2⟩ := nats_of (fun z hz => h z (List.mem_cons_of_mem _ hz))
    refine ⟨k :: w, rfl, ?_⟩
    intro z hz
    rcases List.mem_cons.mp hz with rfl | hz
    · exact h1
    · exact h2 z hz
theorem taken_in {ds : List Int} {c : Cs} {l : List Int} (h : Row K Wo ds c) (hl : ∀ m ∈ l, 0 < m ∧ m < 1073741824) (h0 : 0 < l.length) (h1 : l.length < 1073741824) : ∃ v m c', m ∈ l ∧ 0 ≤ v ∧ v < m ∧ Row K Wo ds c' ∧
    ∀ {f : FE} {s : Sl}, f s c = .ok (.lst (l.map D.int)) c → s[0]? = some (some (.cel 5)) → eCall (F__law_taken K Wo) (aCons (eVar 0) (aCons (eCall (F__law_pick K Wo) (aCons (eVar 0) (aCons f aNil))) aNil)) s c = .ok (.int v) c' := by
  obtain ⟨d, c1, e1, h2, hr1⟩ := pick_ok (l := l.map D.int) h (by simpa using h0) (by simpa using h1)
  obtain ⟨m, hm, rfl⟩ := List.mem_map.mp h2
  obtain ⟨v, c2, e2, h3, h4, hr2⟩ := taken_ok (m := m) hr1 (hl m hm).1 (hl m hm).2
  refine ⟨v, m, c2, hm, h3, h4, hr2, fun hf hs => ?_⟩
  simp only [eCall, aCons, aNil, eVar, hs, hf, Res.bind_ok, e1, e2]
theorem ranks_ok {ds : List Int} {c : Cs} (h : Row K Wo ds c) : ∃ l c', F__law_ranks K Wo [.cel 5] c = .ok (.tup (nats l)) c' ∧ Rks l ∧ Row K Wo ds c' := by
  obtain ⟨v, m, c1, hm, h1, h2, hr1, e1⟩ := taken_in (l := [2, 6, 12]) h (by decide) (by decide) (by decide)
  have hm12 : m ≤ 12 := by simp at hm; omega
  obtain ⟨ys, c2, e2, h3, h4, hr2⟩ := compL_inv (j := 1) (f := eCall (F__law_taken K Wo) (aCons (eVar 0) (aCons (eCall (F__law_pick K Wo) (aCons (eVar 0) (aCons (eLst (aCons (eC (.int 2)) (aCons (eC (.int 4)) (aCons (eC (.int 100)) aNil)))) aNil))) aNil))) (s0 := [some (.cel 5), none]) (Row K Wo ds) (fun y => ∃ k : Nat, y = .int (k : Nat) ∧ k ≤ 99)
    (ds := rngC 0 1 (1 + v).toNat) (acc := []) (c := c1) (by rw [rngC_len]; simp; omega) hr1 (fun d _ c hc => by
      obtain ⟨z, q, c', hq, hz1, hz2, hr, e⟩ := taken_in (l := [2, 4, 100]) hc (by decide) (by decide) (by decide)
      have hq100 : q ≤ 100 := by simp at hq; omega
      obtain ⟨k, rfl⟩ := Int.eq_ofNat_of_zero_le hz1
      exact ⟨_, c', e (by simp [eLst, aCons, aNil, eC]) rfl, ⟨k, rfl, by omega⟩, hr⟩)
  obtain ⟨l, rfl, hl⟩ := nats_of h4
  rw [rngC_len, nats_len] at h3
  refine ⟨l, c2, ?_, ⟨by omega, by omega, hl⟩, hr2⟩
  have e3 := e1 (f := eLst (aCons (eC (.int 2)) (aCons (eC (.int 6)) (aCons (eC (.int 12)) aNil)))) (s := [some (.cel 5), none]) (by simp [eLst, aCons, aNil, eC]) rfl
  have hb : -(2 ^ 62) ≤ 1 + v ∧ 1 + v < 2 ^ 62 := by omega
  have hcomp : eComp (fRng1 (aCons (eOp oAdd (eC (.int 1)) (eCall (F__law_taken K Wo) (aCons (eVar 0) (aCons (eCall (F__law_pick K Wo) (aCons (eVar 0) (aCons (eLst (aCons (eC (.int 2)) (aCons (eC (.int 6)) (aCons (eC (.int 12)) aNil)))) aNil))) aNil)))) aNil)) (.nm 1) (fun _ c => .ok true c) (eCall (F__law_taken K Wo) (aCons (eVar 0) (aCons (eCall (F__law_pick K Wo) (aCons (eVar 0) (aCons (eLst (aCons (eC (.int 2)) (aCons (eC (.int 4)) (aCons (eC (.int 100)) aNil)))) aNil))) aNil))) [1] [some (.cel 5), none] c = .ok (.lst (nats l)) c2 := by
    have hsrc : fRng1 (aCons (eOp oAdd (eC (.int 1)) (eCall (F__law_taken K Wo) (aCons (eVar 0) (aCons (eCall (F__law_pick K Wo) (aCons (eVar 0) (aCons (eLst (aCons (eC (.int 2)) (aCons (eC (.int 6)) (aCons (eC (.int 12)) aNil)))) aNil))) aNil)))) aNil) [some (.cel 5), none] c = .ok (rngC 0 1 (1 + v).toNat) c1 := by
      have ea : aCons (eOp oAdd (eC (.int 1)) (eCall (F__law_taken K Wo) (aCons (eVar 0) (aCons (eCall (F__law_pick K Wo) (aCons (eVar 0) (aCons (eLst (aCons (eC (.int 2)) (aCons (eC (.int 6)) (aCons (eC (.int 12)) aNil)))) aNil))) aNil)))) aNil [some (.cel 5), none] c = .ok [.int (1 + v)] c1 := by
        rw [aCons, eOp]
        simp only [eC, Res.bind_ok] at e3 ⊢
        rw [e3]
        simp only [Res.bind_ok, oAdd, aNil]
      rw [fRng1, ea, Res.bind_ok]
      simp only [if_pos hb]
    simp only [eComp, hsrc, Res.bind_ok, wipeD, List.set_cons_succ, List.set_cons_zero, e2, List.nil_append]
  unfold F__law_ranks
  rw [mkF_1]
  show fin (b__law_ranks K Wo [some (.cel 5), none] c) = _
  unfold b__law_ranks
  rw [sRet_ok (d := .tup (nats l)) (c1 := c2) (by
    rw [eTupOf, hcomp, Res.bind_ok]
    simp [oTupOf, seqOf])]
  rfl
theorem eq_i2 {v : Int} {c : Cs} : oEq (.int v) (.int 2) c = .ok (.bl (v == 2)) c := RL.eq_int
theorem rule_ok {ds : List Int} {c : Cs} (h : Row K Wo ds c) : ∃ u c', F__law_rule K Wo [.cel 5] c = .ok (Ru.dat u) c' ∧ u.Ok ∧ Row K Wo ds c' := by
  obtain ⟨v, c1, e1, h1, h2, hr1⟩ := taken_ok (m := 7) h (by decide) (by decide)
  have ea : eCall (F__law_taken K Wo) (aCons (eVar 0) (aCons (eC (.int 7)) aNil)) [some (.cel 5), none] c = .ok (.int v) c1 := e1
  have hst : ∀ {d : D} {c' : Cs}, b__law_rule K Wo [some (.cel 5), none] c = .rt d c' → F__law_rule K Wo [.cel 5] c = .ok d c' := fun e => by
    unfold F__law_rule
    rw [mkF_1]
    show fin (b__law_rule K Wo [some (.cel 5), none] c) = _
    rw [e]; rfl
  by_cases hv : v < 2
  · obtain ⟨l, c2, e2, hl, hr2⟩ := ranks_ok hr1
    have hb : ∃ b : Bool, ∀ c', eOp oIx (eTup (aCons (eC (.str "key")) (aCons (eC (.str "came")) aNil))) (eVar 1) [some (.cel 5), some (.int v)] c' = .ok (.str (byS b)) c' := by
      have : v = 0 ∨ v = 1 := by omega
      rcases this with rfl | rfl
      · exact ⟨true, fun c' => by kernel_rfl⟩
      · exact ⟨false, fun c' => by kernel_rfl⟩
    obtain ⟨b, hb⟩ := hb
    refine ⟨.rk l b, c2, hst ?_, hl, hr2⟩
    unfold b__law_rule
    refine (sSeq_nx (sAsg_nm ea)).trans ?_
    refine sSeq_rt ((sIf_t (by simp [tsE, eOp, eVar, eC, oLt, hv] : _ = Res.ok true c1)).trans (sRet_ok ?_))
    have e2' : eCall (F__law_ranks K Wo) (aCons (eVar 0) aNil) [some (.cel 5), some (.int v)] c1 = .ok (.tup (nats l)) c2 := e2
    have hb' := hb c2
    exact eTup_ok (aCons_ok eC_ok (aCons_ok e2' (aOne hb'))) (by show 3 ≤ 100000; decide)
  · by_cases h22 : v = 2
    · subst h22
      obtain ⟨m, c2, e2, h3, h4, hr2⟩ := taken_ok (m := 4) hr1 (by decide) (by decide)
      have e2' : eCall (F__law_taken K Wo) (aCons (eVar 0) (aCons (eC (.int 4)) aNil)) [some (.cel 5), some (.int 2)] c1 = .ok (.int m) c2 := e2
      obtain ⟨k, rfl⟩ := Int.eq_ofNat_of_zero_le h3
      refine ⟨.pg (1 + k), c2, hst ?_, ⟨by omega, by omega⟩, hr2⟩
      unfold b__law_rule
      refine (sSeq_nx (sAsg_nm ea)).trans ?_
      refine (sSeq_nx (sIf_fn (c1 := c1) (by kernel_rfl))).trans ?_
      refine sSeq_rt ((sIf_t (by kernel_rfl : _ = Res.ok true c1)).trans (sRet_ok ?_))
      show eTup (aCons _ (aCons (eOp oAdd _ _) aNil)) [some (.cel 5), some (.int 2)] c1 = _
      simp only [eTup, aCons, aNil, eOp, e2', Res.bind_ok, eC, oAdd]
      simp [Ru.dat]
    · have : v = 3 ∨ v = 4 ∨ v = 5 ∨ v = 6 := by omega
      have hp : ∃ i : Fin 4, eTup (aCons (eOp oIx (eTup (aCons (eC (.str "come")) (aCons (eC (.str "levels")) (aCons (eC (.str "bits")) (aCons (eC (.str "starts")) aNil))))) (eOp oSub (eVar 1) (eC (.int 3)))) aNil) [some (.cel 5), some (.int v)] c1 = .ok (Ru.dat (.pl i)) c1 ∧ v ≠ 2 := by
        rcases this with rfl | rfl | rfl | rfl
        · exact ⟨0, by kernel_rfl, by decide⟩
        · exact ⟨1, by kernel_rfl, by decide⟩
        · exact ⟨2, by kernel_rfl, by decide⟩
        · exact ⟨3, by kernel_rfl, by decide⟩
      obtain ⟨i, hi, hne⟩ := hp
      refine ⟨.pl i, c1, hst ?_, trivial, hr1⟩
      unfold b__law_rule
      refine (sSeq_nx (sAsg_nm ea)).trans ?_
      refine (sSeq_nx (sIf_fn (c1 := c1) (by simp [tsE, eOp, eVar, eC, oLt, hv]))).trans ?_
      refine (sSeq_nx (sIf_fn (c1 := c1) (by simp [tsE, eOp, eVar, eC, RL.eq_int, hne]))).trans ?_
      exact sRet_ok hi
end K02

set_option Elab.async false
set_option linter.all false
set_option maxRecDepth 100000
set_option maxHeartbeats 4000000
/-! ## ranks; lists of keys -/
namespace K02
open PySem PySem.Spec PyProof.Rows L2 RL
variable {K : PySem.W.Frag} {Wo : World}
def wsum : Nat → List Nat → Nat
  | _, [] => 0
  | k, x :: xs => x * (k + 1) + wsum (k + 1) xs
def en : Nat → List Nat → List D
  | _, [] => []
  | k, x :: xs => .tup [.int (k : Nat), .int (x : Nat)] :: en (k + 1) xs
theorem en_eq : ∀ (l : List Nat) (k : Nat), ((nats l).mapIdx fun i d => D.tup [.int ((i + k : Nat) : Int), d]) = en k l
  | [], k => rfl
  | x :: l, k => by
    have ih := en_eq l (k + 1)
    have e : nats (x :: l) = .int (x : Nat) :: nats l := rfl
    rw [e, List.mapIdx_cons, en, ← ih]
    congr 1
    · simp
    · congr 1
      funext i d
      congr 3
      simp; omega
theorem enum_en (l : List Nat) : enumD (nats l) = en 0 l := by
  have := en_eq l 0
  simpa [enumD] using this
def G (d : D) : D := match d with | .tup [.int i, .int x] => .int (x * (i + 1)) | d => d
theorem en_mem : ∀ {l : List Nat} {k : Nat} {d : D}, d ∈ en k l → ∃ i x : Nat, d = .tup [.int (i : Nat), .int (x : Nat)] ∧ x ∈ l
  | [], _, _, h => by cases h
  | x :: l, k, d, h => by
    rcases List.mem_cons.mp h with rfl | h
    · exact ⟨k, x, rfl, List.mem_cons_self⟩
    · obtain ⟨i, y, e, hy⟩ := en_mem h
      exact ⟨i, y, e, List.mem_cons_of_mem _ hy⟩
theorem en_sum : ∀ (l : List Nat) (k : Nat), ∃ ns, intsOf ((en k l).map G) = some ns ∧ ns.sum = (wsum k l : Int)
  | [], k => ⟨[], rfl, rfl⟩
  | x :: l, k => by
    obtain ⟨ns, h1, h2⟩ := en_sum l (k + 1)
    refine ⟨((x : Int) * ((k : Int) + 1)) :: ns, ?_, ?_⟩
    · simp only [en, List.map_cons, G, intsOf, h1]
      rfl
    · simp only [List.sum_cons, h2, wsum]
      push_cast
      rfl
theorem en_len : ∀ (l : List Nat) (k : Nat), (en k l).length = l.length
  | [], _ => rfl
  | x :: l, k => by simp [en, en_len l (k + 1)]
theorem mulB_nat {x k : Nat} {c : Cs} (hx : x < 32) : oMulB (.int (x : Nat)) (.int ((k : Int) + 1)) c = .ok (.int ((x : Int) * ((k : Int) + 1))) c := by
  have h1 : (-(2 ^ 64) : Int) < (x : Int) ∧ (x : Int) < 2 ^ 64 := by omega
  simp [oMulB, oMulA, oMul, oI]
  exact fun h => absurd (h (by omega)) (by omega)
theorem lts32 {y : Ky} (h : y.Ok) : ∀ n ∈ y.lts, n < 32 := fun n hn => by
  have := Ky.lts_lt h n hn
  rcases y.wid_of with e | e <;> rw [e] at this <;> omega
/-- the rank by a rule of ranks -/
def rkOf (l : List Nat) (y : Ky) : Nat := l.getD (wsum 0 y.lts % l.length) 0
theorem ix_rk {l : List Nat} {t : Nat} {c : Cs} (h : 1 ≤ l.length) : oIx (.tup (nats l)) (.int ((t : Int) % (l.length : Int))) c = .ok (.int ((l.getD (t % l.length) 0 : Nat) : Int)) c := by
  have hlt : t % l.length < l.length := Nat.mod_lt _ (by omega)
  have e : ((t : Int) % (l.length : Int)) = ((t % l.length : Nat) : Int) := by simp
  rw [e, ix_nats hlt]
  simp [List.getD_eq_getElem?_getD, List.getElem?_eq_getElem hlt]
theorem mod_len {l : List Nat} {t : Nat} {c : Cs} (h : 1 ≤ l.length) : oMod (.int (t : Nat)) (.int (l.length : Nat)) c = .ok (.int ((t : Int) % (l.length : Int))) c := by
  have h2 : decide ((0 : Int) < (l.length : Int)) = true := decide_eq_true (by omega)
  simp only [oMod, oI, h2, if_true]
theorem rank_tail {l : List Nat} {b : Bool} {s : Sl} {c : Cs} {t i : Nat} (h0 : s[0]? = some (some (Ru.dat (.rk l b)))) (hi : s[i]? = some (some (.int (t : Nat)))) (h : 1 ≤ l.length) :
    eOp oIx (eOp oIx (eVar 0) (eC (.int 1))) (eOp oMod (eVar i) (eCall fLen (aCons (eOp oIx (eVar 0) (eC (.int 1))) aNil))) s c = .ok (.int ((l.getD (t % l.length) 0 : Nat) : Int)) c := by
  have e1 : eOp oIx (eVar 0) (eC (.int 1)) s c = .ok (.tup (nats l)) c := eOp_ok (eVar_ok h0) eC_ok (by kernel_rfl)
  have e2 : eCall fLen (aCons (eOp oIx (eVar 0) (eC (.int 1))) aNil) s c = .ok (.int (l.length : Nat)) c := eCall_ok (aOne e1) (by simp [fLen, seqOf, nats_len])
  exact eOp_ok e1 (eOp_ok (eVar_ok hi) e2 (mod_len h)) (ix_rk h)
theorem rank_in_ok {l : List Nat} {b : Bool} {y : Ky} {c : Cs} (hl : Rks l) (hy : y.Ok) : F_rank_in K Wo [Ru.dat (.rk l b), .str y.fam, y.dat] c = .ok (.int (rkOf l y : Nat)) c := by
  have hs : fEnum (aCons (eCall (F_row_of K Wo) (aCons (eVar 1) (aCons (eVar 2) aNil))) aNil) [some (Ru.dat (.rk l b)), some (.str y.fam), some y.dat, none, none, none] c = .ok (en 0 y.lts) c := by
    have e : aCons (eCall (F_row_of K Wo) (aCons (eVar 1) (aCons (eVar 2) aNil))) aNil [some (Ru.dat (.rk l b)), some (.str y.fam), some y.dat, none, none, none] c = .ok [.tup (nats y.lts)] c :=
      aOne (eCall_ok (aCons_ok (eVar_ok rfl) (aOne (eVar_ok rfl))) (row_ok hy))
    simp only [fEnum, e, Res.bind_ok, enum_en]
  have hc := eComp_mapT (tg := .tp [4, 5]) (vs := [4, 5]) (f := eOp oMulB (eVar 5) (eOp oAdd (eVar 4) (eC (.int 1)))) (s := [some (Ru.dat (.rk l b)), some (.str y.fam), some y.dat, none, none, none]) G hs (by rw [en_len]; have := Ky.lts_len hy; omega) (fun d hd => by
    obtain ⟨i, x, rfl, hx⟩ := en_mem hd
    refine ⟨_, rfl, ?_⟩
    exact eOp_ok (eVar_ok rfl) (eOp_ok (eVar_ok rfl) eC_ok (by simp only [oAdd])) (mulB_nat (lts32 hy x hx)))
  obtain ⟨ns, h1, h2⟩ := en_sum y.lts 0
  have e1 : eCall fSum (aCons (eComp (fEnum (aCons (eCall (F_row_of K Wo) (aCons (eVar 1) (aCons (eVar 2) aNil))) aNil)) (.tp [4, 5]) (fun _ c => .ok true c) (eOp oMulB (eVar 5) (eOp oAdd (eVar 4) (eC (.int 1)))) [4, 5]) aNil) [some (Ru.dat (.rk l b)), some (.str y.fam), some y.dat, none, none, none] c = .ok (.int (wsum 0 y.lts : Nat)) c :=
    eCall_ok (aOne hc) (by simp only [fSum, h1, h2])
  unfold F_rank_in
  rw [mkF_3]
  show fin (b_rank_in K Wo [some (Ru.dat (.rk l b)), some (.str y.fam), some y.dat, none, none, none] c) = _
  unfold b_rank_in
  rw [(sSeq_nx (sAsg_nm e1)).trans (sRet_ok (rank_tail (l := l) (b := b) (t := wsum 0 y.lts) rfl rfl hl.lo))]
  rfl
theorem drop_cons {l : List Nat} {k : Nat} (h : k < l.length) : l.drop k = l[k] :: l.drop (k + 1) := List.drop_eq_getElem_cons h
theorem law_loop {l : List Nat} (h32 : ∀ x ∈ l, x < 32) {a0 a1 a2 : Option D} {c : Cs} : ∀ (m k t : Nat) (a5 : Option D), k + m = l.length → ∃ a5',
    loopL (gtName 5) (sAsg (eOp oAdd (eVar 4) (eOp oMulB (eOp oIx (eVar 3) (eVar 5)) (eOp oAdd (eVar 5) (eC (.int 1))))) (gtName 4)) (rngC (k : Nat) 1 m) [a0, a1, a2, some (.tup (nats l)), some (.int (t : Nat)), a5] c
      = .nx [a0, a1, a2, some (.tup (nats l)), some (.int ((t + wsum k (l.drop k) : Nat) : Int)), a5'] c
  | 0, k, t, a5, h => ⟨a5, by
    have : l.drop k = [] := List.drop_of_length_le (by omega)
    rw [this]
    simp [rngC, loopL, wsum]⟩
  | m + 1, k, t, a5, h => by
    have hk : k < l.length := by omega
    obtain ⟨a5', ih⟩ := law_loop h32 (a0 := a0) (a1 := a1) (a2 := a2) (c := c) m (k + 1) (t + l[k] * (k + 1)) (some (.int (k : Nat))) (by omega)
    refine ⟨a5', ?_⟩
    rw [rngC_succ]
    have e0 : ((k : Int) + 1) = ((k + 1 : Nat) : Int) := by omega
    rw [loopL_nx (s1 := [a0, a1, a2, some (.tup (nats l)), some (.int (t : Nat)), some (.int (k : Nat))]) (c1 := c) (s2 := [a0, a1, a2, some (.tup (nats l)), some (.int ((t + l[k] * (k + 1) : Nat) : Int)), some (.int (k : Nat))]) (c2 := c) rfl (by
      rw [sAsg_nm (d := .int ((t + l[k] * (k + 1) : Nat) : Int)) (c1 := c)]
      · rfl
      · refine eOp_ok (eVar_ok rfl) (eOp_ok (eOp_ok (eVar_ok rfl) (eVar_ok rfl) (ix_nats hk)) (eOp_ok (eVar_ok rfl) eC_ok (by simp only [oAdd]; rfl)) (mulB_nat (h32 _ (List.getElem_mem hk)))) ?_
        simp only [oAdd]
        congr 2), e0, ih, drop_cons hk, wsum, Nat.add_assoc]
theorem law_rank_ok {l : List Nat} {b : Bool} {y : Ky} {c : Cs} (hl : Rks l) (hy : y.Ok) : F__law_rank K Wo [Ru.dat (.rk l b), .str y.fam, y.dat] c = .ok (.int (rkOf l y : Nat)) c := by
  have e1 : eCall (F__law_letters K Wo) (aCons (eVar 1) (aCons (eVar 2) aNil)) [some (Ru.dat (.rk l b)), some (.str y.fam), some y.dat, none, none, none] c = .ok (.tup (nats y.lts)) c := eCall_ok (aCons_ok (eVar_ok rfl) (aOne (eVar_ok rfl))) (let_ok hy)
  have e2 : fRng1 (aCons (eCall fLen (aCons (eVar 3) aNil)) aNil) [some (Ru.dat (.rk l b)), some (.str y.fam), some y.dat, some (.tup (nats y.lts)), some (.int 0), none] c = .ok (rngC 0 1 y.lts.length) c :=
    rng1_nat (i := (y.lts.length : Int)) rfl (aOne (eCall_ok (aOne (eVar_ok rfl)) (by simp [fLen, seqOf, nats_len]))) (by have := Ky.lts_len hy; omega)
  obtain ⟨a5', e3⟩ := law_loop (l := y.lts) (lts32 hy) (a0 := some (Ru.dat (.rk l b))) (a1 := some (.str y.fam)) (a2 := some y.dat) (c := c) y.lts.length 0 0 none (by omega)
  have key : sFor (fRng1 (aCons (eCall fLen (aCons (eVar 3) aNil)) aNil)) (gtName 5) (sAsg (eOp oAdd (eVar 4) (eOp oMulB (eOp oIx (eVar 3) (eVar 5)) (eOp oAdd (eVar 5) (eC (.int 1))))) (gtName 4)) [some (Ru.dat (.rk l b)), some (.str y.fam), some y.dat, some (.tup (nats y.lts)), some (.int 0), none] c
      = .nx [some (Ru.dat (.rk l b)), some (.str y.fam), some y.dat, some (.tup (nats y.lts)), some (.int ((wsum 0 y.lts : Nat) : Int)), a5'] c := by
    rw [sFor_ok e2]
    have e4 := e3
    simp only [Nat.zero_add, List.drop_zero] at e4
    exact e4
  have kk : b__law_rank K Wo [some (Ru.dat (.rk l b)), some (.str y.fam), some y.dat, none, none, none] c = .rt (.int (rkOf l y : Nat)) c := by
    unfold b__law_rank
    refine (sSeq_nx (sAsg_nm e1)).trans ?_
    refine (sSeq_nx (s1 := [some (Ru.dat (.rk l b)), some (.str y.fam), some y.dat, some (.tup (nats y.lts)), some (.int 0), none]) (c1 := c) rfl).trans ?_
    refine (sSeq_nx key).trans ?_
    exact sRet_ok (rank_tail (l := l) (b := b) (t := wsum 0 y.lts) rfl rfl hl.lo)
  unfold F__law_rank
  rw [mkF_3]
  show fin (b__law_rank K Wo [some (Ru.dat (.rk l b)), some (.str y.fam), some y.dat, none, none, none] c) = _
  rw [kk]
  rfl
/-! keys -/
abbrev TW (K : PySem.W.Frag) (c : Cs) : Prop := hasTab c 0 (tb K 0) "is_word.<locals>.<genexpr>" = true
abbrev TK (K : PySem.W.Frag) (c : Cs) : Prop := hasTab c 2 (tb K 2) "are_keys.<locals>.<genexpr>" = true
abbrev TI (K : PySem.W.Frag) (c : Cs) : Prop := hasTab c 1 (tb K 1) "are_rising.<locals>.<genexpr>" = true
/-- the tables -/
structure Tabs (K : PySem.W.Frag) (c : Cs) : Prop where
  w : TW K c
  i : TI K c
  k : TK K c
  r : TR K c
  l : hasTab c 4 (tb K 4) "_law_refused.<locals>.<lambda>" = true
theorem Row.tabs {ds : List Int} {c : Cs} (h : Row K Wo ds c) : Tabs K c := ⟨h.tab_is_word, h.tab_are_rising, h.tab_are_keys, h.tab_is_rule, h.tab__law_refused⟩
theorem Tabs.app {c x : Cs} (h : Tabs K c) : Tabs K (c ++ x) := ⟨hasTab_app h.w, hasTab_app h.i, hasTab_app h.k, hasTab_app h.r, hasTab_app h.l⟩
def wrL (y : Ky) : List D := [.non, .bl true, .int (-1), .int 65536, .str "", .str "Z", .str "a b", .tup [y.dat]]
theorem wnum {y : Ky} {d : D} {c : Cs} (h : d ∈ wrL y) : F_is_number K Wo [d, .int 0, .int 65535] c = .ok (.bl false) c := by
  simp only [wrL, List.mem_cons, List.not_mem_nil, or_false] at h
  rcases h with rfl | rfl | rfl | rfl | rfl | rfl | rfl | rfl <;> kernel_rfl
theorem wstr : ∀ x ∈ [Str.ofString "", Str.ofString "Z", Str.ofString "a b"], ∃ w, x = SX.S w ∧ w.length ≤ 100000 ∧ (decide (1 ≤ w.length) && decide (w.length ≤ 12) && w.all (fun k => decide (k ∈ AL))) = false := by
  have h : ∀ x ∈ [Str.ofString "", Str.ofString "Z", Str.ofString "a b"], x.cps.toList.length ≤ 100000 ∧ (decide (1 ≤ x.cps.toList.length) && decide (x.cps.toList.length ≤ 12) && x.cps.toList.all (fun k => decide (k ∈ AL))) = false := by decide +kernel
  exact fun x hx => ⟨x.cps.toList, (SX.S_tl x).symm, h x hx⟩
theorem wword {y : Ky} {d : D} {c : Cs} (hc : TW K c) (h : d ∈ wrL y) : F_is_word K Wo [d] c = .ok (.bl false) c := by
  have hs : ∀ x ∈ [Str.ofString "", Str.ofString "Z", Str.ofString "a b"], F_is_word K Wo [.str x] c = .ok (.bl false) c := by
    intro x hx
    obtain ⟨w, rfl, h1, h2⟩ := wstr x hx
    rw [isword hc h1, h2]
  simp only [wrL, List.mem_cons, List.not_mem_nil, or_false] at h
  rcases h with rfl | rfl | rfl | rfl | rfl | rfl | rfl | rfl
  · kernel_rfl
  · kernel_rfl
  · kernel_rfl
  · kernel_rfl
  · exact hs _ (by simp)
  · exact hs _ (by simp)
  · exact hs _ (by simp)
  · kernel_rfl
theorem key_f {y : Ky} {d : D} {c : Cs} (hc : TW K c) (h : d ∈ wrL y) : F_is_key K Wo [.str y.fam, d] c = .ok (.bl false) c := by
  have hb : ∀ {r : Res D}, b_is_key K Wo [some (.str y.fam), some d] c = .rt (.bl false) c → F_is_key K Wo [.str y.fam, d] c = .ok (.bl false) c := fun e => by
    unfold F_is_key
    rw [mkF_2]
    show fin (b_is_key K Wo [some (.str y.fam), some d] c) = _
    rw [e]; rfl
  refine hb (r := .bad) ?_
  unfold b_is_key
  refine sRet_ok ?_
  cases y with
  | num k =>
    have e : tsE (eOp oEq (eVar 0) (eC (.str "numbers"))) [some (.str (Ky.num k).fam), some d] c = .ok true c := tsE_ok (eOp_ok (eVar_ok rfl) eC_ok eq_nn)
    rw [eIf, e, Res.bind_ok, if_pos rfl]
    exact eCall_ok (aCons_ok (eVar_ok rfl) (aCons_ok eC_ok (aOne eC_ok))) (wnum h)
  | wrd w =>
    have e : tsE (eOp oEq (eVar 0) (eC (.str "numbers"))) [some (.str (Ky.wrd w).fam), some d] c = .ok false c := tsE_ok (eOp_ok (eVar_ok rfl) eC_ok eq_wn)
    rw [eIf, e, Res.bind_ok, if_neg (by decide)]
    exact eCall_ok (aOne (eVar_ok rfl)) (wword hc h)
theorem keys_b {y : Ky} {L : List D} {q : D → Bool} {c : Cs} (ht : TK K c) (h : ∀ d ∈ L, F_is_key K Wo [.str y.fam, d] c = .ok (.bl (q d)) c) : F_are_keys K Wo [.str y.fam, .tup L] c = .ok (.bl (L.all q)) c := by
  have hQ : eQ false 2 (tb K 2) "are_keys.<locals>.<genexpr>" (fSeq (eVar 1)) (.nm 2) (eCall (F_is_key K Wo) (aCons (eVar 0) (aCons (eVar 2) aNil))) [2] [some (.str y.fam), some (.tup L), none] c = .ok (.bl (L.all q)) c :=
    eQ_all rfl ht fun d hd => eCall_ok (aCons_ok (eVar_ok rfl) (aOne (eVar_ok rfl))) (h d hd)
  unfold F_are_keys
  rw [mkF_2]
  show fin (b_are_keys K Wo [some (.str y.fam), some (.tup L), none] c) = _
  unfold b_are_keys
  rw [sRet_ok ((eAnd_t (c1 := c) (by kernel_rfl)).trans hQ)]
  rfl
theorem rising_f {y : Ky} {c : Cs} (ht : TI K c) : F_are_rising K Wo [.tup [y.dat, y.dat]] c = .ok (.bl false) c := by
  have hz : fZip (aCons (eVar 0) (aCons (eSl (eVar 0) (pSome (eC (.int 1))) pNone) aNil)) [some (.tup [y.dat, y.dat]), none, none] c = .ok [.tup [y.dat, y.dat]] c := by kernel_rfl
  have e : oLt y.dat y.dat c = .ok (.bl false) c := by rw [lt_dat rfl, ltK_self]
  have hq : qL false (.tp [1, 2]) (eOp oLt (eVar 1) (eVar 2)) [some (.tup [y.dat, y.dat]), none, none] [.tup [y.dat, y.dat]] c = .ok false c := qL_stop rfl (eOp_ok (eVar_ok rfl) (eVar_ok rfl) e)
  unfold F_are_rising
  rw [mkF_1]
  show fin (b_are_rising K Wo [some (.tup [y.dat, y.dat]), none, none] c) = _
  unfold b_are_rising
  rw [sRet_ok (d := .bl false) (c1 := c) (by
    simp only [eQ, hz, Res.bind_ok, ht, if_true, wipeD, List.set_cons_succ, List.set_cons_zero, hq])]
  rfl
/-- lists of keys that are not as described -/
def klL (y : Ky) (w : D) : List D := [.lst [y.dat], .tup [y.dat, y.dat], .tup [y.dat, .non], .non, .tup [w]]
theorem keys_f {y : Ky} {w d : D} {c : Cs} (ht : Tabs K c) (hy : y.Ok) (hw : w ∈ wrL y) (h : d ∈ klL y w) : eAnd (eCall (F_are_keys K Wo) (aCons (eVar 1) (aCons (eVar 2) aNil))) (eAnd (eCall (F_are_rising K Wo) (aCons (eVar 2) aNil)) (eOp oLe (eCall fLen (aCons (eVar 2) aNil)) (eC (.int 300)))) [a0, some (.str y.fam), some d] c = .ok (.bl false) c := by
  have ha : ∀ {r : D}, F_are_keys K Wo [.str y.fam, d] c = .ok r c → eCall (F_are_keys K Wo) (aCons (eVar 1) (aCons (eVar 2) aNil)) [a0, some (.str y.fam), some d] c = .ok r c := fun e => eCall_ok (aCons_ok (eVar_ok rfl) (aOne (eVar_ok rfl))) e
  have hn := key_f (Wo := Wo) (y := y) (d := .non) ht.w (by simp [wrL])
  have hk := key_t (Wo := Wo) ht.w hy
  simp only [klL, List.mem_cons, List.not_mem_nil, or_false] at h
  rcases h with rfl | rfl | rfl | rfl | rfl
  · exact eAnd_f (ha (by kernel_rfl))
  · have e := keys_b (Wo := Wo) (y := y) (L := [y.dat, y.dat]) (q := fun _ => true) ht.k (fun d hd => by
      simp at hd; subst hd; exact hk)
    exact (eAnd_t (ha e)).trans (eAnd_f (eCall_ok (aOne (eVar_ok rfl)) (rising_f ht.i)))
  · have e := keys_b (Wo := Wo) (y := y) (L := [y.dat, .non]) (q := fun d => match d with | .non => false | _ => true) ht.k (fun d hd => by
      simp at hd
      rcases hd with rfl | rfl
      · rw [hk]
        cases y <;> rfl
      · exact hn)
    have e2 : ([y.dat, D.non].all fun d => match d with | .non => false | _ => true) = false := by cases y <;> rfl
    rw [e2] at e
    exact eAnd_f (ha e)
  · exact eAnd_f (ha (by kernel_rfl))
  · have e := keys_b (Wo := Wo) (y := y) (L := [w]) (q := fun _ => false) ht.k (fun d hd => by
      simp at hd; subst hd; exact key_f ht.w hw)
    exact eAnd_f (ha e)
end K02

set_option Elab.async false
set_option linter.all false
set_option maxRecDepth 100000
set_option maxHeartbeats 400000
/-! ## groves; refusals; the law -/
namespace K02
open PySem PySem.Spec PyProof.Rows L2 RL
variable {K : PySem.W.Frag} {Wo : World}
theorem nm_rule : (Str.ofString "rule").length ≤ 100000 := by decide +kernel
theorem nm_family : (Str.ofString "family").length ≤ 100000 := by decide +kernel
theorem nm_key : (Str.ofString "key").length ≤ 100000 := by decide +kernel
theorem nm_keys : (Str.ofString "keys").length ≤ 100000 := by decide +kernel
/-! rank_of -/
theorem and_rank {s : Sl} {c : Cs} {l : List Nat} {b : Bool} (ht : Tabs K c) (h0 : s[0]? = some (some (Ru.dat (.rk l b)))) (hl : Rks l) : eAnd (eCall (F_is_rule K Wo) (aCons (eVar 0) aNil)) (eOp oEq (eOp oIx (eVar 0) (eC (.int 0))) (eC (.str "ranks"))) s c = .ok (.bl true) c :=
  (eAnd_t (eCall_ok (aOne (eVar_ok h0)) (rule_t (u := .rk l b) ht.r hl))).trans (eOp_ok (eOp_ok (eVar_ok h0) eC_ok (by kernel_rfl : oIx (Ru.dat (.rk l b)) (.int 0) c = .ok (.str "ranks") c)) eC_ok (by kernel_rfl))
theorem rank_of_ok {l : List Nat} {b : Bool} {y : Ky} {c : Cs} (ht : Tabs K c) (hl : Rks l) (hy : y.Ok) : F_rank_of K Wo [Ru.dat (.rk l b), .str y.fam, y.dat] c = .ok (.int (rkOf l y : Nat)) c := by
  have hk : eCall (F_are_keys K Wo) (aCons (eVar 1) (aCons (eTup (aCons (eVar 2) aNil)) aNil)) [some (Ru.dat (.rk l b)), some (.str y.fam), some y.dat] c = .ok (.bl true) c :=
    eCall_ok (aCons_ok (eVar_ok rfl) (aOne (eTup_ok (aOne (eVar_ok rfl)) (by show 1 ≤ 100000; decide)))) (keys_b (L := [y.dat]) (q := fun _ => true) ht.k (fun d hd => by
      simp at hd; subst hd; exact key_t ht.w hy))
  have kk : b_rank_of K Wo [some (Ru.dat (.rk l b)), some (.str y.fam), some y.dat] c = .rt (.int (rkOf l y : Nat)) c := by
    unfold b_rank_of
    refine (sSeq_nx (sDrop_ok (chk_t (and_rank ht rfl hl)))).trans ?_
    refine (sSeq_nx (sDrop_ok (chk_t (eCall_ok (aOne (eVar_ok rfl)) fam_t)))).trans ?_
    refine (sSeq_nx (sDrop_ok (chk_t hk))).trans ?_
    exact sRet_ok (eCall_ok (aCons_ok (eVar_ok rfl) (aCons_ok (eVar_ok rfl) (aOne (eVar_ok rfl)))) (rank_in_ok hl hy))
  unfold F_rank_of
  rw [mkF_3]
  show fin (b_rank_of K Wo [some (Ru.dat (.rk l b)), some (.str y.fam), some y.dat] c) = _
  rw [kk]; rfl
theorem rank_of_st {d e f : D} {c c' : Cs} {x : Exc} (h : ∃ s', b_rank_of K Wo [some d, some e, some f] c = .err x s' c') : F_rank_of K Wo [d, e, f] c = .err x c' := by
  obtain ⟨s', h⟩ := h
  unfold F_rank_of
  rw [mkF_3]
  show fin (b_rank_of K Wo [some d, some e, some f] c) = _
  rw [h]; rfl
theorem rank_of_f1 {d e f : D} {c : Cs} (ht : Tabs K c) (h : NoRule d) : F_rank_of K Wo [d, e, f] c = .err (badD K "rule") c := rank_of_st ⟨_, by
  unfold b_rank_of
  exact sSeq_err (sDrop_err (chk_f (eAnd_f (eCall_ok (aOne (eVar_ok rfl)) (rule_f ht.r h))) nm_rule))⟩
theorem rank_of_f2 {e f : D} {c : Cs} (ht : Tabs K c) : F_rank_of K Wo [.tup [.str "come"], e, f] c = .err (badD K "rule") c := rank_of_st ⟨_, by
  unfold b_rank_of
  refine sSeq_err (sDrop_err (chk_f ((eAnd_t (eCall_ok (aOne (eVar_ok rfl)) (rule_t (u := .pl 0) ht.r trivial))).trans ?_) nm_rule))
  exact eOp_ok (eOp_ok (eVar_ok rfl) eC_ok (by kernel_rfl : oIx (.tup [.str "come"]) (.int 0) c = .ok (.str "come") c)) eC_ok (by kernel_rfl)⟩
theorem rank_of_f3 {l : List Nat} {b : Bool} {f : D} {c : Cs} (ht : Tabs K c) (hl : Rks l) : F_rank_of K Wo [Ru.dat (.rk l b), .non, f] c = .err (badD K "family") c := rank_of_st ⟨_, by
  unfold b_rank_of
  refine (sSeq_nx (sDrop_ok (chk_t (and_rank ht rfl hl)))).trans ?_
  exact sSeq_err (sDrop_err (chk_f (eCall_ok (aOne (eVar_ok rfl)) (by kernel_rfl)) nm_family))⟩
theorem rank_of_f4 {l : List Nat} {b : Bool} {y : Ky} {f : D} {c : Cs} (ht : Tabs K c) (hl : Rks l) (hf : f ∈ wrL y) : F_rank_of K Wo [Ru.dat (.rk l b), .str y.fam, f] c = .err (badD K "key") c := rank_of_st ⟨_, by
  unfold b_rank_of
  refine (sSeq_nx (sDrop_ok (chk_t (and_rank ht rfl hl)))).trans ?_
  refine (sSeq_nx (sDrop_ok (chk_t (eCall_ok (aOne (eVar_ok rfl)) fam_t)))).trans ?_
  refine sSeq_err (sDrop_err (chk_f (c1 := c) ?_ nm_key))
  have e := keys_b (Wo := Wo) (y := y) (L := [f]) (q := fun _ => false) ht.k (fun d hd => by
      simp at hd; subst hd; exact key_f ht.w hf)
  exact eCall_ok (aCons_ok (eVar_ok rfl) (aOne (eTup_ok (aOne (eVar_ok rfl)) (by show 1 ≤ 100000; decide)))) e⟩
/-! always_one -/
def due : Ru → Bool
  | .rk _ b => b
  | .pg _ => false
  | .pl i => decide (2 ≤ i.val)
theorem due_ok {i : Nat} {u : Ru} {s : Sl} {c : Cs} (h0 : s[i]? = some (some u.dat)) (h : u.Ok) :
    eOr (eOp oIn (eOp oIx (eVar i) (eC (.int 0))) (eTup (aCons (eC (.str "bits")) (aCons (eC (.str "starts")) aNil)))) (eAnd (eOp oEq (eOp oIx (eVar i) (eC (.int 0))) (eC (.str "ranks"))) (eOp oEq (eOp oIx (eVar i) (eC (.int 2))) (eC (.str "key")))) s c = .ok (.bl (due u)) c := by
  have ht : eTup (aCons (eC (.str "bits")) (aCons (eC (.str "starts")) aNil)) s c = .ok (.tup [.str "bits", .str "starts"]) c := by kernel_rfl
  cases u with
  | rk l b =>
    have e0 : eOp oIx (eVar i) (eC (.int 0)) s c = .ok (.str "ranks") c := eOp_ok (eVar_ok h0) eC_ok (by kernel_rfl)
    have e2 : eOp oIx (eVar i) (eC (.int 2)) s c = .ok (.str (byS b)) c := eOp_ok (eVar_ok h0) eC_ok (by kernel_rfl)
    refine (eOr_f (c1 := c) (eOp_ok e0 ht (by kernel_rfl))).trans ((eAnd_t (c1 := c) (eOp_ok e0 eC_ok (by kernel_rfl))).trans (eOp_ok e2 eC_ok ?_))
    cases b <;> kernel_rfl
  | pg m =>
    have e0 : eOp oIx (eVar i) (eC (.int 0)) s c = .ok (.str "pages") c := eOp_ok (eVar_ok h0) eC_ok (by kernel_rfl)
    exact (eOr_f (c1 := c) (eOp_ok e0 ht (by kernel_rfl))).trans (eAnd_f (eOp_ok e0 eC_ok (by kernel_rfl)))
  | pl j =>
    have e0 : eOp oIx (eVar i) (eC (.int 0)) s c = .ok (.str (plS j)) c := eOp_ok (eVar_ok h0) eC_ok (by kernel_rfl)
    have : j = 0 ∨ j = 1 ∨ j = 2 ∨ j = 3 := by omega
    rcases this with rfl | rfl | rfl | rfl
    · exact (eOr_f (c1 := c) (eOp_ok e0 ht (by kernel_rfl))).trans (eAnd_f (eOp_ok e0 eC_ok (by kernel_rfl)))
    · exact (eOr_f (c1 := c) (eOp_ok e0 ht (by kernel_rfl))).trans (eAnd_f (eOp_ok e0 eC_ok (by kernel_rfl)))
    · exact eOr_t (eOp_ok e0 ht (by kernel_rfl))
    · exact eOr_t (eOp_ok e0 ht (by kernel_rfl))
theorem always_ok {u : Ru} {c : Cs} (ht : Tabs K c) (h : u.Ok) : F_always_one K Wo [u.dat] c = .ok (.bl (due u)) c := by
  have kk : b_always_one K Wo [some u.dat] c = .rt (.bl (due u)) c := by
    unfold b_always_one
    refine (sSeq_nx (sDrop_ok (chk_t (eCall_ok (aOne (eVar_ok rfl)) (rule_t ht.r h))))).trans ?_
    exact sRet_ok (due_ok rfl h)
  unfold F_always_one
  rw [mkF_1]
  show fin (b_always_one K Wo [some u.dat] c) = _
  rw [kk]; rfl
theorem always_f {d : D} {c : Cs} (ht : Tabs K c) (h : NoRule d) : F_always_one K Wo [d] c = .err (badD K "rule") c := by
  have kk : ∃ s', b_always_one K Wo [some d] c = .err (badD K "rule") s' c := ⟨_, by
    unfold b_always_one
    exact sSeq_err (sDrop_err (chk_f (eCall_ok (aOne (eVar_ok rfl)) (rule_f ht.r h)) nm_rule))⟩
  obtain ⟨s', kk⟩ := kk
  unfold F_always_one
  rw [mkF_1]
  show fin (b_always_one K Wo [some d] c) = _
  rw [kk]; rfl
/-! one_shape -/
theorem one_st {d e f : D} {c c' : Cs} {x : Exc} (h : ∃ s', b_check_all K Wo [some d, some e, some f] c = .err x s' c') : F_one_shape K Wo [d, e, f] c = .err x c' := by
  obtain ⟨s', h⟩ := h
  have h1 : F_check_all K Wo [d, e, f] c = .err x c' := by
    unfold F_check_all
    rw [mkF_3]
    show fin (b_check_all K Wo [some d, some e, some f] c) = _
    rw [h]; rfl
  unfold F_one_shape
  rw [mkF_3]
  show fin (b_one_shape K Wo [some d, some e, some f] c) = _
  have : b_one_shape K Wo [some d, some e, some f] c = .err x [some d, some e, some f] c' := by
    unfold b_one_shape
    exact sSeq_err (sDrop_err (eCall_ok (aCons_ok (eVar_ok rfl) (aCons_ok (eVar_ok rfl) (aOne (eVar_ok rfl)))) h1))
  rw [this]; rfl
theorem one_f1 {d e f : D} {c : Cs} (ht : Tabs K c) (h : NoRule d) : F_one_shape K Wo [d, e, f] c = .err (badD K "rule") c := one_st ⟨_, by
  unfold b_check_all
  exact sSeq_err (sDrop_err (chk_f (eCall_ok (aOne (eVar_ok rfl)) (rule_f ht.r h)) nm_rule))⟩
theorem one_f2 {u : Ru} {y : Ky} {w f : D} {c : Cs} (ht : Tabs K c) (hu : u.Ok) (hy : y.Ok) (hw : w ∈ wrL y) (h : f ∈ klL y w) : F_one_shape K Wo [u.dat, .str y.fam, f] c = .err (badD K "keys") c := one_st ⟨_, by
  unfold b_check_all
  refine (sSeq_nx (sDrop_ok (chk_t (eCall_ok (aOne (eVar_ok rfl)) (rule_t ht.r hu))))).trans ?_
  refine (sSeq_nx (sDrop_ok (chk_t (eCall_ok (aOne (eVar_ok rfl)) fam_t)))).trans ?_
  exact sDrop_err (chk_f (keys_f ht hy hw h) nm_keys)⟩
/-! groves -/
abbrev GC (K : PySem.W.Frag) : Addr := He.ga K "Grove"
def gfs (a f : D) (n : Nat) : List (Str × D) := [("_rule", a), ("_family", f), ("_nodes", .cel (n + 1)), ("_numbers", .cel (n + 2)), ("_many", .cel (n + 3)), ("_heights", .cel (n + 4))]
def gcs (K : PySem.W.Frag) (Wo : World) (a f : D) (n : Nat) : Cs := [.ins (GC K) (gfs a f n), .lst [], .dic Wo [], .lst [], .lst []]
theorem setf {C : Addr} {x : Str} {fv : FE} {s : Sl} {c p q : Cs} {v : D} {fs fs' : List (Str × D)} (hv : fv s c = .ok v (p ++ .ins C fs :: q)) (ho : s[0]? = some (some (.cel p.length))) (hf : putD x v fs = fs') (hl : fs.length < 1000) : sSetF C x (eVar 0) fv s c = .nx s (p ++ .ins C fs' :: q) := by
  rw [sSetF_ok hv (eVar_ok ho) (mid_get rfl) hl, mid_set rfl, hf]
def g1 (x1 : D) : List (Str × D) := [("_rule", x1)]
def g2 (x1 x2 : D) : List (Str × D) := [("_rule", x1), ("_family", x2)]
def g3 (x1 x2 x3 : D) : List (Str × D) := [("_rule", x1), ("_family", x2), ("_nodes", x3)]
def g4 (x1 x2 x3 x4 : D) : List (Str × D) := [("_rule", x1), ("_family", x2), ("_nodes", x3), ("_numbers", x4)]
def g5 (x1 x2 x3 x4 x5 : D) : List (Str × D) := [("_rule", x1), ("_family", x2), ("_nodes", x3), ("_numbers", x4), ("_many", x5)]
def g6 (x1 x2 x3 x4 x5 x6 : D) : List (Str × D) := [("_rule", x1), ("_family", x2), ("_nodes", x3), ("_numbers", x4), ("_many", x5), ("_heights", x6)]
theorem put1 {x1 : D} : putD "_rule" x1 [] = g1 x1 := by kernel_rfl
theorem put2 {x1 x2 : D} : putD "_family" x2 (g1 x1) = g2 x1 x2 := by kernel_rfl
theorem put3 {x1 x2 x3 : D} : putD "_nodes" x3 (g2 x1 x2) = g3 x1 x2 x3 := by kernel_rfl
theorem put4 {x1 x2 x3 x4 : D} : putD "_numbers" x4 (g3 x1 x2 x3) = g4 x1 x2 x3 x4 := by kernel_rfl
theorem put5 {x1 x2 x3 x4 x5 : D} : putD "_many" x5 (g4 x1 x2 x3 x4) = g5 x1 x2 x3 x4 x5 := by kernel_rfl
theorem put6 {x1 x2 x3 x4 x5 x6 : D} : putD "_heights" x6 (g5 x1 x2 x3 x4 x5) = g6 x1 x2 x3 x4 x5 x6 := by kernel_rfl
theorem newL {s : Sl} {c : Cs} {x : Cell} {q : Cs} : eNew aNil s (c ++ x :: q) = .ok (.cel (c.length + (q.length + 1))) (c ++ x :: (q ++ [.lst []])) := by
  simp [eNew, aNil]
theorem newD {s : Sl} {c : Cs} {x : Cell} {q : Cs} : eDic Wo s (c ++ x :: q) = .ok (.cel (c.length + (q.length + 1))) (c ++ x :: (q ++ [.dic Wo []])) := by
  simp [eDic]
theorem grove_body {a f : D} {c : Cs} (h1 : ∀ x, F_is_rule K Wo [a] (c ++ x) = .ok (.bl true) (c ++ x)) (h2 : ∀ x, F_is_family K Wo [f] (c ++ x) = .ok (.bl true) (c ++ x)) :
    b_Grove___init__ K Wo [some (.cel c.length), some a, some f] (c ++ [.ins (GC K) []]) = .nx [some (.cel c.length), some a, some f] (c ++ gcs K Wo a f c.length) := by
  unfold b_Grove___init__
  refine (sSeq_nx (sDrop_ok (chk_t (eCall_ok (aOne (eVar_ok rfl)) (h1 _))))).trans ?_
  refine (sSeq_nx (sDrop_ok (chk_t (eCall_ok (aOne (eVar_ok rfl)) (h2 _))))).trans ?_
  refine (sSeq_nx (setf (v := a) (eVar_ok rfl) rfl put1 (by show 0 < 1000; decide))).trans ?_
  refine (sSeq_nx (setf (v := f) (eVar_ok rfl) rfl put2 (by show 1 < 1000; decide))).trans ?_
  refine (sSeq_nx (setf (newL (q := [])) rfl put3 (by show 2 < 1000; decide))).trans ?_
  refine (sSeq_nx (setf (newD (q := [.lst []])) rfl put4 (by show 3 < 1000; decide))).trans ?_
  refine (sSeq_nx (setf (newL (q := [.lst [], .dic Wo []])) rfl put5 (by show 4 < 1000; decide))).trans ?_
  exact setf (newL (q := [.lst [], .dic Wo [], .lst []])) rfl put6 (by show 5 < 1000; decide)
theorem grove_ok {a f : D} {c : Cs} (h1 : ∀ x, F_is_rule K Wo [a] (c ++ x) = .ok (.bl true) (c ++ x)) (h2 : ∀ x, F_is_family K Wo [f] (c ++ x) = .ok (.bl true) (c ++ x)) :
    F_Grove___init__ K Wo [.cel c.length, a, f] (c ++ [.ins (GC K) []]) = .ok .non (c ++ gcs K Wo a f c.length) := by
  have hs : startD 3 3 [D.cel c.length, a, f] = [some (.cel c.length), some a, some f] := rfl
  unfold F_Grove___init__
  rw [mkF_3, hs, grove_body h1 h2, fin]
end K02

set_option Elab.async false
set_option linter.all false
set_option maxRecDepth 100000
set_option maxHeartbeats 400000
/-! ## the law -/
namespace K02
open PySem PySem.Spec PyProof.Rows L2 RL
variable {K : PySem.W.Frag} {Wo : World}
theorem make_t {u : Ru} {y : Ky} {s : Sl} {c : Cs} {i j : Nat} (hi : s[i]? = some (some u.dat)) (hj : s[j]? = some (some (.str y.fam))) (ht : Tabs K c) (hu : u.Ok) :
    eMake (GC K) (F_Grove___init__ K Wo) (aCons (eVar i) (aCons (eVar j) aNil)) s c = .ok (.cel c.length) (c ++ gcs K Wo u.dat (.str y.fam) c.length) :=
  eMake_ok (aCons_ok (eVar_ok hi) (aOne (eVar_ok hj))) (grove_ok (fun x => rule_t ht.app.r hu) (fun x => fam_t))
theorem init_err {d e : D} {c : Cs} {nm : Str} {n : Nat} (h : ∃ s', b_Grove___init__ K Wo [some (.cel n), some d, some e] c = .err (badD K nm) s' c) : F_Grove___init__ K Wo [.cel n, d, e] c = .err (badD K nm) c := by
  obtain ⟨s', h⟩ := h
  have hs : startD 3 3 [D.cel n, d, e] = [some (.cel n), some d, some e] := rfl
  unfold F_Grove___init__
  rw [mkF_3, hs, h, fin]
theorem make_f1 {d : D} {f2 : FE} {e : D} {s : Sl} {c : Cs} {i : Nat} (hi : s[i]? = some (some d)) (h2 : ∀ c, f2 s c = .ok e c) (ht : Tabs K c) (hd : NoRule d) :
    eMake (GC K) (F_Grove___init__ K Wo) (aCons (eVar i) (aCons f2 aNil)) s c = .err (badD K "rule") (c ++ [.ins (GC K) []]) :=
  eMake_err (aCons_ok (eVar_ok hi) (aOne (h2 _))) (init_err ⟨_, by
    unfold b_Grove___init__
    exact sSeq_err (sDrop_err (chk_f (eCall_ok (aOne (eVar_ok rfl)) (rule_f ht.app.r hd)) nm_rule))⟩)
theorem make_f2 {u : Ru} {s : Sl} {c : Cs} {i : Nat} (hi : s[i]? = some (some u.dat)) (ht : Tabs K c) (hu : u.Ok) :
    eMake (GC K) (F_Grove___init__ K Wo) (aCons (eVar i) (aCons (eC (.str "keys")) aNil)) s c = .err (badD K "family") (c ++ [.ins (GC K) []]) :=
  eMake_err (aCons_ok (eVar_ok hi) (aOne eC_ok)) (init_err ⟨_, by
    unfold b_Grove___init__
    refine (sSeq_nx (sDrop_ok (chk_t (eCall_ok (aOne (eVar_ok rfl)) (rule_t ht.app.r hu))))).trans ?_
    exact sSeq_err (sDrop_err (chk_f (c1 := c ++ [.ins (GC K) []]) (eCall_ok (aOne (eVar_ok rfl)) (by kernel_rfl)) nm_family))⟩)
theorem gcs_0 {a f : D} {c : Cs} : (c ++ gcs K Wo a f c.length)[c.length]? = some (.ins (GC K) (gfs a f c.length)) := mid_get rfl
theorem gcs_1 {a f : D} {c : Cs} : (c ++ gcs K Wo a f c.length)[c.length + 1]? = some (.lst []) := by
  rw [List.getElem?_append_right (by omega)]
  have : c.length + 1 - c.length = 1 := by omega
  rw [this]; rfl
theorem rule_get {a f : D} {c : Cs} : F_Grove_rule K Wo [.cel c.length] (c ++ gcs K Wo a f c.length) = .ok a (c ++ gcs K Wo a f c.length) := by
  unfold F_Grove_rule
  rw [mkF_1s (s0 := [some (.cel c.length)]) rfl]
  unfold b_Grove_rule
  rw [sRet_ok (eFld_ok (eVar_ok rfl) gcs_0 (by kernel_rfl : (gfs a f c.length).lookup ("_rule" : Str) = some a)), fin]
theorem family_get {a f : D} {c : Cs} : F_Grove_family K Wo [.cel c.length] (c ++ gcs K Wo a f c.length) = .ok f (c ++ gcs K Wo a f c.length) := by
  unfold F_Grove_family
  rw [mkF_1s (s0 := [some (.cel c.length)]) rfl]
  unfold b_Grove_family
  rw [sRet_ok (eFld_ok (eVar_ok rfl) gcs_0 (by kernel_rfl : (gfs a f c.length).lookup ("_family" : Str) = some f)), fin]
theorem len_get {a f : D} {c : Cs} : F_Grove___len__ K Wo [.cel c.length] (c ++ gcs K Wo a f c.length) = .ok (.int 0) (c ++ gcs K Wo a f c.length) := by
  unfold F_Grove___len__
  rw [mkF_1s (s0 := [some (.cel c.length)]) rfl]
  unfold b_Grove___len__
  rw [sRet_ok (eCall_ok (aOne (eFld_ok (eVar_ok rfl) gcs_0 (by kernel_rfl : (gfs a f c.length).lookup ("_nodes" : Str) = some (.cel (c.length + 1))))) (by
    simp only [fLen, seqOf, gcs_1]; rfl : fLen [.cel (c.length + 1)] (c ++ gcs K Wo a f c.length) = .ok (.int 0) (c ++ gcs K Wo a f c.length))), fin]
/-! what is no rule -/
theorem no_rule_ok {ds : List Int} {c : Cs} (h : Row K Wo ds c) : ∃ d c', F__law_no_rule K Wo [.cel 5] c = .ok d c' ∧ NoRule d ∧ Row K Wo ds c' := by
  have e1 : ∀ s c, eLst (aCons (eC .non) (aCons (eTup aNil) (aCons (eC (.str "come")) (aCons (eLst (aCons (eC (.str "come")) aNil)) (aCons (eTup (aCons (eC (.str "come")) (aCons (eC (.int 1)) aNil))) (aCons (eTup (aCons (eC (.str "levels")) (aCons (eTup aNil) aNil))) (aCons (eTup (aCons (eC (.str "pages")) aNil)) (aCons (eTup (aCons (eC (.str "pages")) (aCons (eC (.int 0)) aNil))) (aCons (eTup (aCons (eC (.str "pages")) (aCons (eC (.int 5)) aNil))) (aCons (eTup (aCons (eC (.str "pages")) (aCons (eC (.bl true)) aNil))) (aCons (eTup (aCons (eC (.str "ranks")) aNil)) (aCons (eTup (aCons (eC (.int 0)) aNil)) aNil)))))))))))) s c = .ok (.lst nrA) c := fun s c => by kernel_rfl
  have e2 : ∀ s c, eLst (aCons (eTup (aCons (eC (.str "ranks")) (aCons (eTup aNil) (aCons (eC (.str "key")) aNil)))) (aCons (eTup (aCons (eC (.str "ranks")) (aCons (eOp oMulB (eTup (aCons (eC (.int 1)) aNil)) (eC (.int 13))) (aCons (eC (.str "key")) aNil)))) (aCons (eTup (aCons (eC (.str "ranks")) (aCons (eTup (aCons (eC (.int 100)) aNil)) (aCons (eC (.str "came")) aNil)))) (aCons (eTup (aCons (eC (.str "ranks")) (aCons (eTup (aCons (eNeg (eC (.int 1))) aNil)) (aCons (eC (.str "key")) aNil)))) (aCons (eTup (aCons (eC (.str "ranks")) (aCons (eLst (aCons (eC (.int 1)) aNil)) (aCons (eC (.str "key")) aNil)))) aNil))))) s c = .ok (.lst nrB) c := fun s c => by kernel_rfl
  have e3 : ∀ s c, eLst (aCons (eTup (aCons (eC (.str "ranks")) (aCons (eTup (aCons (eC (.int 1)) aNil)) (aCons (eC (.str "keys")) aNil)))) (aCons (eTup (aCons (eC (.str "ranks")) (aCons (eTup (aCons (eC (.int 1)) aNil)) (aCons (eC (.str "key")) (aCons (eC (.int 0)) aNil))))) (aCons (eTup (aCons (eC (.str "ranks")) (aCons (eTup (aCons (eC (.bl true)) aNil)) (aCons (eC (.str "key")) aNil)))) (aCons (eTup (aCons (eC (.str "ranks")) (aCons (eTup (aCons (eC (.int 1)) aNil)) (aCons (eC .non) aNil)))) aNil)))) s c = .ok (.lst nrC) c := fun s c => by kernel_rfl
  have a1 : oAdd (.lst nrA) (.lst nrB) c = .ok (.lst (nrA ++ nrB)) c := by kernel_rfl
  have a2 : oAdd (.lst (nrA ++ nrB)) (.lst nrC) c = .ok (.lst ((nrA ++ nrB) ++ nrC)) c := by kernel_rfl
  obtain ⟨d, c1, e4, h1, hr1⟩ := pick_call (Wo := Wo) (l := (nrA ++ nrB) ++ nrC) (s := [some (.cel 5), some (.lst (nrA ++ nrB))]) (c := c) (f := eOp oAdd (eVar 1) (eLst (aCons (eTup (aCons (eC (.str "ranks")) (aCons (eTup (aCons (eC (.int 1)) aNil)) (aCons (eC (.str "keys")) aNil)))) (aCons (eTup (aCons (eC (.str "ranks")) (aCons (eTup (aCons (eC (.int 1)) aNil)) (aCons (eC (.str "key")) (aCons (eC (.int 0)) aNil))))) (aCons (eTup (aCons (eC (.str "ranks")) (aCons (eTup (aCons (eC (.bl true)) aNil)) (aCons (eC (.str "key")) aNil)))) (aCons (eTup (aCons (eC (.str "ranks")) (aCons (eTup (aCons (eC (.int 1)) aNil)) (aCons (eC .non) aNil)))) aNil))))))
    (eOp_ok (eVar_ok rfl) (e3 _ _) a2) h rfl (by decide) (by decide)
  refine ⟨d, c1, ?_, h1, hr1⟩
  have kk : b__law_no_rule K Wo [some (.cel 5), none] c = .rt d c1 := by
    unfold b__law_no_rule
    refine (sSeq_nx (sAsg_nm (e1 _ _))).trans ?_
    refine (sSeq_nx (sAsg_nm (eOp_ok (eVar_ok rfl) (e2 _ _) a1))).trans ?_
    exact sRet_ok e4
  unfold F__law_no_rule
  rw [mkF_1s (s0 := [some (.cel 5), none]) rfl, kk, fin]
theorem fam_ok {y : Ky} : PyData.strOk y.fam = true := by
  cases y with
  | num k => show PyData.strOk (Str.ofString "numbers") = true; decide +kernel
  | wrd w => show PyData.strOk (Str.ofString "words") = true; decide +kernel
theorem pl_ru {n : Nat} {u : Ru} (h : u.Ok) : Pl (n + 3) u.dat := by
  cases u with
  | rk l b =>
    have h' : Rks l := h
    refine .tup (by show 3 ≤ 100000; decide) fun x hx => ?_
    simp at hx
    rcases hx with rfl | rfl | rfl
    · exact .str (by decide +kernel)
    · exact Pl.nats (n := n) (by have := h'.hi; omega)
    · cases b <;> exact .str (by decide +kernel)
  | pg m =>
    refine .tup (by show 2 ≤ 100000; decide) fun x hx => ?_
    simp at hx
    rcases hx with rfl | rfl
    · exact .str (by decide +kernel)
    · exact .int
  | pl i =>
    refine .tup (by show 1 ≤ 100000; decide) fun x hx => ?_
    simp at hx
    subst hx
    have : i = 0 ∨ i = 1 ∨ i = 2 ∨ i = 3 := by omega
    rcases this with rfl | rfl | rfl | rfl <;> exact .str (by decide +kernel)
theorem str_rule : PyData.strOk (Str.ofString "rule") = true := by decide +kernel
theorem str_family : PyData.strOk (Str.ofString "family") = true := by decide +kernel
theorem str_key : PyData.strOk (Str.ofString "key") = true := by decide +kernel
theorem str_keys : PyData.strOk (Str.ofString "keys") = true := by decide +kernel
theorem refused_ok {ds : List Int} {c : Cs} {u : Ru} {y : Ky} {l : List Nat} {b : Bool} (hr : Row K Wo ds c) (hu : u.Ok) (hy : y.Ok) (hl : Rks l) : ∃ c', F__law_refused K Wo [.cel 5, .str y.fam, u.dat, y.dat, Ru.dat (.rk l b)] c = .ok (.bl true) c' := by
  have hst : startD 5 9 [.cel 5, .str y.fam, u.dat, y.dat, Ru.dat (.rk l b)] = [some (.cel 5), some (.str y.fam), some u.dat, some y.dat, some (Ru.dat (.rk l b)), none, none, none, none] := rfl
  obtain ⟨bad, c1, e1', hbad, hr1⟩ := no_rule_ok hr
  have e1 : eCall (F__law_no_rule K Wo) (aCons (eVar 0) aNil) [some (.cel 5), some (.str y.fam), some u.dat, some y.dat, some (Ru.dat (.rk l b)), none, none, none, none] c = .ok bad c1 := eCall_ok (aOne (eVar_ok rfl)) e1'
  have t1 := hr1.tabs
  obtain ⟨S, hS⟩ : ∃ S : Sl, S = [some (.cel 5), some (.str y.fam), some u.dat, some y.dat, some (Ru.dat (.rk l b)), some bad, none, none, none] := ⟨_, rfl⟩
  have s2 : S[2]? = some (some u.dat) := by rw [hS]; rfl
  have s5 : S[5]? = some (some bad) := by rw [hS]; rfl
  have q1 := lam_badG (CR := CR K) t1.l (eCall_ok (F := F_rank_of K Wo) (aCons_ok (eVar_ok s5) (aCons_ok (eC_ok (d := .non)) (aOne (eC_ok (d := .non))))) (rank_of_f1 t1 hbad))
  have q2 := lam_badG (CR := CR K) t1.l (eCall_ok (F := F_always_one K Wo) (aOne (eVar_ok s5)) (always_f t1 hbad))
  have q3 := lam_badG (CR := CR K) t1.l (eCall_ok (F := F_one_shape K Wo) (aCons_ok (eVar_ok s5) (aCons_ok (eC_ok (d := .non)) (aOne (eC_ok (d := .non))))) (one_f1 t1 hbad))
  have q4 := lam_badG (CR := CR K) t1.l (make_f1 (Wo := Wo) (f2 := eC .non) s5 (fun _ => eC_ok) t1 hbad)
  have t2 : Tabs K (c1 ++ [.ins (GC K) []]) := t1.app
  have q5 := lam_badG (CR := CR K) t2.l (make_f2 (Wo := Wo) s2 t2 hu)
  have e2 := eLst_ok (aCons_ok q1 (aCons_ok q2 (aCons_ok q3 (aCons_ok q4 (aOne q5))))) (by show 5 ≤ 100000; decide)
  rw [hS] at e2
  obtain ⟨c2, hc2⟩ : ∃ c2, c2 = (c1 ++ [.ins (GC K) []]) ++ [.ins (GC K) []] := ⟨_, rfl⟩
  rw [← hc2] at e2
  have hr2 : Row K Wo ds c2 := by rw [hc2]; exact hr1.app.app
  have hpl5 : Pl 4 (.lst [badT "rule", badT "rule", badT "rule", badT "rule", badT "family"]) := .lst (by show 5 ≤ 100000; decide) fun x hx => by
    simp at hx
    rcases hx with rfl | rfl
    · exact Pl.bad (n := 1) str_rule
    · exact Pl.bad (n := 1) str_family
  have e3r : ∀ s, eOp oAdd (eOp oMulB (eLst (aCons (eTup (aCons (eC (.str "bad")) (aCons (eC (.str "rule")) (aCons (eC (.bl true)) aNil)))) aNil)) (eC (.int 4))) (eLst (aCons (eTup (aCons (eC (.str "bad")) (aCons (eC (.str "family")) (aCons (eC (.bl true)) aNil)))) aNil)) s c2 = .ok (.lst [badT "rule", badT "rule", badT "rule", badT "rule", badT "family"]) c2 := fun s =>
    eOp_ok (eOp_ok (eLst_ok (aOne bad_tup) (by show 1 ≤ 100000; decide)) eC_ok (by kernel_rfl : oMulB (.lst [badT "rule"]) (.int 4) c2 = .ok (.lst [badT "rule", badT "rule", badT "rule", badT "rule"]) c2)) (eLst_ok (aOne bad_tup) (by show 1 ≤ 100000; decide)) (by kernel_rfl)
  have e3 := alike_not (K := K) (Wo := Wo) (n := 4) (f := eVar 6) (s := [some (.cel 5), some (.str y.fam), some u.dat, some y.dat, some (Ru.dat (.rk l b)), some bad, some (.lst [badT "rule", badT "rule", badT "rule", badT "rule", badT "family"]), none, none]) (c := c2) (eVar_ok rfl) (e3r _) hpl5
  obtain ⟨wrong, c3, e4, m4, hr3⟩ := pick_call (Wo := Wo) (l := wrL y) (s := [some (.cel 5), some (.str y.fam), some u.dat, some y.dat, some (Ru.dat (.rk l b)), some bad, some (.lst [badT "rule", badT "rule", badT "rule", badT "rule", badT "family"]), none, none]) (c := c2) (f := eLst (aCons (eC .non) (aCons (eC (.bl true)) (aCons (eNeg (eC (.int 1))) (aCons (eC (.int 65536)) (aCons (eC (.str "")) (aCons (eC (.str "Z")) (aCons (eC (.str "a b")) (aCons (eTup (aCons (eVar 3) aNil)) aNil)))))))))
    (by kernel_rfl) hr2 rfl (by show 0 < 8; decide) (by show 8 < 1073741824; decide)
  obtain ⟨keys, c4, e5, m5, hr4⟩ := pick_call (Wo := Wo) (l := klL y wrong) (s := [some (.cel 5), some (.str y.fam), some u.dat, some y.dat, some (Ru.dat (.rk l b)), some bad, some (.lst [badT "rule", badT "rule", badT "rule", badT "rule", badT "family"]), some wrong, none]) (c := c3) (f := eLst (aCons (eLst (aCons (eVar 3) aNil)) (aCons (eTup (aCons (eVar 3) (aCons (eVar 3) aNil))) (aCons (eTup (aCons (eVar 3) (aCons (eC .non) aNil))) (aCons (eC .non) (aCons (eTup (aCons (eVar 7) aNil)) aNil))))))
    (by kernel_rfl) hr3 rfl (by show 0 < 5; decide) (by show 5 < 1073741824; decide)
  have t4 := hr4.tabs
  obtain ⟨S2, hS2⟩ : ∃ S2 : Sl, S2 = [some (.cel 5), some (.str y.fam), some u.dat, some y.dat, some (Ru.dat (.rk l b)), some bad, some (.lst [badT "rule", badT "rule", badT "rule", badT "rule", badT "family"]), some wrong, some keys] := ⟨_, rfl⟩
  have z1 : S2[1]? = some (some (.str y.fam)) := by rw [hS2]; rfl
  have z2 : S2[2]? = some (some u.dat) := by rw [hS2]; rfl
  have z3 : S2[3]? = some (some y.dat) := by rw [hS2]; rfl
  have z4 : S2[4]? = some (some (Ru.dat (.rk l b))) := by rw [hS2]; rfl
  have z7 : S2[7]? = some (some wrong) := by rw [hS2]; rfl
  have z8 : S2[8]? = some (some keys) := by rw [hS2]; rfl
  have w1 := lam_badG (CR := CR K) t4.l (eCall_ok (F := F_rank_of K Wo) (aCons_ok (eVar_ok z4) (aCons_ok (eVar_ok z1) (aOne (eVar_ok z7)))) (rank_of_f4 t4 hl m4))
  have w2 := lam_badG (CR := CR K) t4.l (eCall_ok (F := F_rank_of K Wo) (aCons_ok (eTup_ok (aOne (eC_ok (d := .str "come"))) (by show 1 ≤ 100000; decide)) (aCons_ok (eVar_ok z1) (aOne (eVar_ok z3)))) (rank_of_f2 t4))
  have w3 := lam_badG (CR := CR K) t4.l (eCall_ok (F := F_rank_of K Wo) (aCons_ok (eVar_ok z4) (aCons_ok (eC_ok (d := .non)) (aOne (eVar_ok z7)))) (rank_of_f3 t4 hl))
  have w4 := lam_badG (CR := CR K) t4.l (eCall_ok (F := F_one_shape K Wo) (aCons_ok (eVar_ok z2) (aCons_ok (eVar_ok z1) (aOne (eVar_ok z8)))) (one_f2 t4 hu hy m4 m5))
  have e6 := eLst_ok (aCons_ok w1 (aCons_ok w2 (aCons_ok w3 (aOne w4)))) (by show 4 ≤ 100000; decide)
  rw [hS2] at e6
  have hpl4 : Pl 4 (.lst [badT "key", badT "rule", badT "family", badT "keys"]) := .lst (by show 4 ≤ 100000; decide) fun x hx => by
    simp at hx
    rcases hx with rfl | rfl | rfl | rfl
    · exact Pl.bad (n := 1) str_key
    · exact Pl.bad (n := 1) str_rule
    · exact Pl.bad (n := 1) str_family
    · exact Pl.bad (n := 1) str_keys
  have e7 := alike_call (K := K) (Wo := Wo) (n := 4) (f := eVar 6) (s := [some (.cel 5), some (.str y.fam), some u.dat, some y.dat, some (Ru.dat (.rk l b)), some bad, some (.lst [badT "key", badT "rule", badT "family", badT "keys"]), some wrong, some keys]) (c := c4) (eVar_ok rfl) (eLst4 bad_tup bad_tup bad_tup bad_tup) hpl4
  have key : b__law_refused K Wo [some (.cel 5), some (.str y.fam), some u.dat, some y.dat, some (Ru.dat (.rk l b)), none, none, none, none] c = .rt (.bl true) c4 := by
    unfold b__law_refused
    refine (sSeq_nx (sAsg_nm e1)).trans ?_
    refine (sSeq_nx (sAsg_nm e2)).trans ?_
    refine (sSeq_nx (sIf_fn e3)).trans ?_
    refine (sSeq_nx (sAsg_nm e4)).trans ?_
    refine (sSeq_nx (sAsg_nm e5)).trans ?_
    refine (sSeq_nx (sAsg_nm e6)).trans ?_
    exact sRet_ok e7
  refine ⟨c4, ?_⟩
  unfold F__law_refused
  rw [mkF_5, hst, key, fin]
end K02

set_option Elab.async false
set_option linter.all false
set_option maxRecDepth 100000
set_option maxHeartbeats 400000
namespace K02
open PySem PySem.Spec PyProof.Rows L2 RL
variable {K : PySem.W.Frag} {Wo : World}
theorem law_ok (ns : List Int) : ∃ c', F_law K Wo [.scr (ns.map D.int)] (cells0 K tfs) = .ok (.bl true) c' := by
  have hst : startD 1 7 [.scr (ns.map D.int)] = [some (.scr (ns.map D.int)), none, none, none, none, none, none] := rfl
  have e1 : eNew (aCons (eVar 0) (aCons (eC (.int 0)) (aCons (eC (.int 7401502)) (aCons (eC (.int 0)) aNil)))) [some (.scr (ns.map D.int)), none, none, none, none, none, none] (cells0 K tfs) = .ok (.cel 5) (cells0 K tfs ++ [.lst [.scr (ns.map .int), .int 0, .int 7401502, .int 0]]) :=
    eNew_ok (aCons_ok (eVar_ok rfl) (aCons_ok eC_ok (aCons_ok eC_ok (aOne eC_ok)))) (by show 4 ≤ 100000; decide)
  have hr0 := Row.start (K := K) (Wo := Wo) ns
  obtain ⟨f, c1, e2', hf0, hr1⟩ := family_ok hr0
  obtain ⟨u, c2, e3', hu, hr2⟩ := rule_ok hr1
  obtain ⟨d, c3, e4', hk, hr3⟩ := key_ok hr2 hf0
  obtain ⟨y, hy, rfl, rfl⟩ := ky_of hk
  have e2 : aCons (eCall (F__law_family K Wo) (aCons (eVar 1) aNil)) (aCons (eCall (F__law_rule K Wo) (aCons (eVar 1) aNil)) aNil) [some (.scr (ns.map D.int)), some (.cel 5), none, none, none, none, none] (cells0 K tfs ++ [.lst [.scr (ns.map .int), .int 0, .int 7401502, .int 0]]) = .ok [.str y.fam, u.dat] c2 :=
    aCons2 (eCall_ok (aOne (eVar_ok rfl)) e2') (eCall_ok (aOne (eVar_ok rfl)) e3')
  have e4 : eCall (F__law_key K Wo) (aCons (eVar 1) (aCons (eVar 5) aNil)) [some (.scr (ns.map D.int)), some (.cel 5), none, none, none, some (.str y.fam), some u.dat] c2 = .ok y.dat c3 := eCall_ok (aCons_ok (eVar_ok rfl) (aOne (eVar_ok rfl))) e4'
  obtain ⟨l, c4, e5', hl, hr4⟩ := ranks_ok hr3
  have e5a : eCall (F__law_ranks K Wo) (aCons (eVar 1) aNil) [some (.scr (ns.map D.int)), some (.cel 5), some y.dat, none, none, some (.str y.fam), some u.dat] c3 = .ok (.tup (nats l)) c4 := eCall_ok (aOne (eVar_ok rfl)) e5'
  obtain ⟨by_, c5, e5b', m5, hr5⟩ := pick_ok (l := [.str "key", .str "came"]) hr4 (by decide) (by decide)
  obtain ⟨b, rfl⟩ : ∃ b, by_ = .str (byS b) := by
    simp at m5
    rcases m5 with rfl | rfl
    · exact ⟨true, rfl⟩
    · exact ⟨false, rfl⟩
  have e5b : eCall (F__law_pick K Wo) (aCons (eVar 1) (aCons (eLst (aCons (eC (.str "key")) (aCons (eC (.str "came")) aNil))) aNil)) [some (.scr (ns.map D.int)), some (.cel 5), some y.dat, none, none, some (.str y.fam), some u.dat] c4 = .ok (.str (byS b)) c5 :=
    eCall_ok (aCons_ok (eVar_ok rfl) (aOne (eLst_ok (aCons_ok eC_ok (aOne eC_ok)) (by show 2 ≤ 100000; decide)))) e5b'
  have e5 : eTup (aCons (eC (.str "ranks")) (aCons (eCall (F__law_ranks K Wo) (aCons (eVar 1) aNil)) (aCons (eCall (F__law_pick K Wo) (aCons (eVar 1) (aCons (eLst (aCons (eC (.str "key")) (aCons (eC (.str "came")) aNil))) aNil))) aNil))) [some (.scr (ns.map D.int)), some (.cel 5), some y.dat, none, none, some (.str y.fam), some u.dat] c3 = .ok (Ru.dat (.rk l b)) c5 :=
    eTup_ok (aCons_ok eC_ok (aCons_ok e5a (aOne e5b))) (by show 3 ≤ 100000; decide)
  have t5 := hr5.tabs
  have e6 := alike_not (K := K) (Wo := Wo) (n := 4) (f := eCall (F_rank_of K Wo) (aCons (eVar 3) (aCons (eVar 5) (aCons (eVar 2) aNil)))) (g := eCall (F__law_rank K Wo) (aCons (eVar 3) (aCons (eVar 5) (aCons (eVar 2) aNil)))) (s := [some (.scr (ns.map D.int)), some (.cel 5), some y.dat, some (Ru.dat (.rk l b)), none, some (.str y.fam), some u.dat]) (c := c5)
    (eCall_ok (aCons_ok (eVar_ok rfl) (aCons_ok (eVar_ok rfl) (aOne (eVar_ok rfl)))) (rank_of_ok t5 hl hy)) (eCall_ok (aCons_ok (eVar_ok rfl) (aCons_ok (eVar_ok rfl) (aOne (eVar_ok rfl)))) (law_rank_ok hl hy)) (Pl.int (n := 3))
  have e7 := due_ok (i := 6) (u := u) (s := [some (.scr (ns.map D.int)), some (.cel 5), some y.dat, some (Ru.dat (.rk l b)), none, some (.str y.fam), some u.dat]) (c := c5) rfl hu
  obtain ⟨S, hS⟩ : ∃ S : Sl, S = [some (.scr (ns.map D.int)), some (.cel 5), some y.dat, some (Ru.dat (.rk l b)), some (.bl (due u)), some (.str y.fam), some u.dat] := ⟨_, rfl⟩
  have z4 : S[4]? = some (some (.bl (due u))) := by rw [hS]; rfl
  have z5 : S[5]? = some (some (.str y.fam)) := by rw [hS]; rfl
  have z6 : S[6]? = some (some u.dat) := by rw [hS]; rfl
  have a1 := eCall_ok (F := F_always_one K Wo) (s := S) (c := c5) (aOne (eVar_ok z6)) (always_ok t5 hu)
  have a2 := eProp_ok (F := F_Grove_rule K Wo) (make_t (Wo := Wo) (c := c5) z6 z5 t5 hu) gcs_0 rule_get
  obtain ⟨c6, hc6⟩ : ∃ c6, c6 = c5 ++ gcs K Wo u.dat (.str y.fam) c5.length := ⟨_, rfl⟩
  rw [← hc6] at a2
  have hr6 : Row K Wo ns c6 := by rw [hc6]; exact hr5.app
  have t6 := hr6.tabs
  have a3 := eProp_ok (F := F_Grove_family K Wo) (make_t (Wo := Wo) (c := c6) z6 z5 t6 hu) gcs_0 family_get
  obtain ⟨c7, hc7⟩ : ∃ c7, c7 = c6 ++ gcs K Wo u.dat (.str y.fam) c6.length := ⟨_, rfl⟩
  rw [← hc7] at a3
  have hr7 : Row K Wo ns c7 := by rw [hc7]; exact hr6.app
  have t7 := hr7.tabs
  have a4 := eLenO_ok (F := F_Grove___len__ K Wo) (make_t (Wo := Wo) (c := c7) z6 z5 t7 hu) gcs_0 len_get (by decide) (by decide)
  obtain ⟨c8, hc8⟩ : ∃ c8, c8 = c7 ++ gcs K Wo u.dat (.str y.fam) c7.length := ⟨_, rfl⟩
  rw [← hc8] at a4
  have hr8 : Row K Wo ns c8 := by rw [hc8]; exact hr7.app
  have hpl : Pl 4 (.lst [.bl (due u), u.dat, .str y.fam, .int 0]) := .lst (by show 4 ≤ 100000; decide) fun x hx => by
    simp at hx
    rcases hx with rfl | rfl | rfl | rfl
    · exact .bl
    · exact pl_ru (n := 0) hu
    · exact .str fam_ok
    · exact .int
  have e8 := alike_not (K := K) (Wo := Wo) (n := 4) (c2 := c8) (eLst_ok (aCons_ok a1 (aCons_ok a2 (aCons_ok a3 (aOne a4)))) (by show 4 ≤ 100000; decide)) (eLst_ok (aCons_ok (eVar_ok z4) (aCons_ok (eVar_ok z6) (aCons_ok (eVar_ok z5) (aOne (eC_ok (d := .int 0)))))) (by show 4 ≤ 100000; decide)) hpl
  obtain ⟨c9, e9'⟩ := refused_ok (Wo := Wo) (b := b) hr8 hu hy hl
  have e9 : eCall (F__law_refused K Wo) (aCons (eVar 1) (aCons (eVar 5) (aCons (eVar 6) (aCons (eVar 2) (aCons (eVar 3) aNil))))) [some (.scr (ns.map D.int)), some (.cel 5), some y.dat, some (Ru.dat (.rk l b)), some (.bl (due u)), some (.str y.fam), some u.dat] c8 = .ok (.bl true) c9 :=
    eCall_ok (aCons_ok (eVar_ok rfl) (aCons_ok (eVar_ok rfl) (aCons_ok (eVar_ok rfl) (aCons_ok (eVar_ok rfl) (aOne (eVar_ok rfl)))))) e9'
  rw [hS] at e8
  have key : b_law K Wo [some (.scr (ns.map D.int)), none, none, none, none, none, none] (cells0 K tfs) = .rt (.bl true) c9 := by
    unfold b_law
    refine (sSeq_nx (sAsg_nm e1)).trans ?_
    refine (sSeq_nx (sPar_ok e2)).trans ?_
    refine (sSeq_nx (sAsg_nm e4)).trans ?_
    refine (sSeq_nx (sAsg_nm e5)).trans ?_
    refine (sSeq_nx (sIf_fn e6)).trans ?_
    refine (sSeq_nx (sAsg_nm e7)).trans ?_
    refine (sSeq_nx (sIf_fn e8)).trans ?_
    exact sRet_ok e9
  refine ⟨c9, ?_⟩
  unfold F_law
  rw [mkF_1, hst, key, fin]
end K02

set_option Elab.async false
/-- every row of the law holds -/
theorem PySem.Challenge.cw_keyboughs_k02_whole_ranks_holds : PySem.Challenge.rw_keyboughs_k02_whole_ranks.Holds :=
  K02.holds_of fun K w _ ns _ _ _ => K02.law_ok ns
