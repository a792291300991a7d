import PyProof.Rows.All
import Wide.All
import OpenK.AllK
import Wide.FinOn
import HandS.ForMost
import HandS.ForExc
import HandS.Lambda
import HandS.Iter
import HandS.TupAny
import HandS.TupLe
import HandS.TupMul
import HandS.IsInst
import HandS.Text
import HandS.More
import HandS.Replace
import HandS.FStr
import HandS.Conv
import HandS.AnyAll
import HandS.GenList
import KE.KExcSuper
import HandS.ExcField
import HandS.ExcIs
import HandS.ExcInit
import HandS.TryMany
import HandS.Defaults
import HandS.HeadHook4
import HandS.Head0
import HandS.Head1
import HandS.Head2
import HandS.HeadEnd
import HandS.EndTab
import HandS.HeadWalk
import PySem.Challenge.RW_keyboughs_k01_whole_keys
set_option Elab.async false
set_option linter.all false
set_option maxRecDepth 100000
set_option maxHeartbeats 2000000
/-! RL: values as data, few objects as numbered cells; what code does as plain functions -/
namespace RL
open PySem PySem.Spec PyProof.Rows L2

inductive D where
  | non | bl (b : Bool) | int (i : Int) | str (x : Str) | tup (l : List D) | lst (l : List D) | scr (l : List D) | cel (n : Nat)
inductive Cell where
  | lst (l : List D)
  | ins (C : Addr) (fs : List (Str × D))
  | tab (P : Addr) (q : Str)
abbrev Cs := List Cell
abbrev Sl := List (Option D)

def KTup (K : PySem.W.Frag) (a : Addr) (xs : List V) : Prop := ∃ (o : Obj) (its : Array Value) (n : Nat), K.lookup a = some o ∧ o.cls = .type "tuple" ∧ o.data = .seq its n ∧ its.size ≤ sizeLine ∧ Vals xs its.toList
/-- r: the cells; o: other objects that may change -/
def TupAt (K : PySem.W.Frag) (r o : List Addr) (H : Hp) (a : Addr) (xs : List V) : Prop := (a ∉ r ∧ a ∉ o ∧ Rd H a (.tup xs)) ∨ KTup K a xs
def LstAt (r o : List Addr) (H : Hp) (a : Addr) (xs : List V) : Prop := a ∉ r ∧ a ∉ o ∧ H a = some (.lst xs)
/-- the script: a list that nobody changes -/
def KLst (K : PySem.W.Frag) (a : Addr) (xs : List V) : Prop := ∃ (o : Obj) (its : Array Value) (n : Nat), K.lookup a = some o ∧ o.cls = .type "list" ∧ o.dict = none ∧ o.data = .seq its n ∧ its.size ≤ sizeLine ∧ Vals xs its.toList
def ScrAt (K : PySem.W.Frag) (r o : List Addr) (H : Hp) (a : Addr) (xs : List V) : Prop := (a ∉ r ∧ a ∉ o ∧ Rd H a (.lst xs)) ∨ KLst K a xs
theorem TupAt.sq {K r o H a xs} (h : TupAt K r o H a xs) : SqT K H a xs := h.elim (fun z => .inl z.2.2) .inr
theorem LstAt.sq {K r o H a xs} (h : LstAt r o H a xs) : SqL K H a xs := .inl (.inl h.2.2)
theorem ScrAt.sq {K r o H a xs} (h : ScrAt K r o H a xs) : SqL K H a xs := h.elim (fun z => .inl z.2.2) .inr

section
variable (K : PySem.W.Frag) (r o : List Addr) (H : Hp)
mutual
inductive Is : D → V → Prop
  | non : Is .non .non
  | bl {b} : Is (.bl b) (.bl b)
  | int {i} : Is (.int i) (.int i)
  | str {x} : Is (.str x) (.str x)
  | tup {l a us} : TupAt K r o H a us → IsL l us → Is (.tup l) (.ref a)
  | lst {l a us} : LstAt r o H a us → IsL l us → Is (.lst l) (.ref a)
  | scr {l a us} : ScrAt K r o H a us → IsL l us → Is (.scr l) (.ref a)
  | cel {n a} : r[n]? = some a → Is (.cel n) (.ref a)
inductive IsL : List D → List V → Prop
  | nil : IsL [] []
  | cons {d v ds vs} : Is d v → IsL ds vs → IsL (d :: ds) (v :: vs)
end
end
variable {K : PySem.W.Frag} {r r' r1 r2 o o' : List Addr} {H H' H1 H2 : Hp} {c c' c1 c2 : Cs}
theorem IsL.length : ∀ {ds vs}, IsL K r o H ds vs → ds.length = vs.length
  | _, _, .nil => rfl
  | _, _, .cons _ t => congrArg (· + 1) t.length
theorem IsL.get : ∀ {ds : List D} {vs : List V} {i : Nat} {d : D}, IsL K r o H ds vs → ds[i]? = some d → ∃ v, vs[i]? = some v ∧ Is K r o H d v
  | _, _, _, _, .nil, e => by simp at e
  | _, _, 0, _, .cons h _, e => by simp at e; subst e; exact ⟨_, rfl, h⟩
  | _, _, i + 1, d, .cons _ t, e => by
    obtain ⟨v, h1, h2⟩ := t.get (i := i) (d := d) (by simpa using e)
    exact ⟨v, by simpa using h1, h2⟩
theorem IsL.app : ∀ {ds es : List D} {vs ws : List V}, IsL K r o H ds vs → IsL K r o H es ws → IsL K r o H (ds ++ es) (vs ++ ws)
  | _, _, _, _, .nil, s => s
  | _, _, _, _, .cons h t, s => .cons h (t.app s)
theorem IsL.take : ∀ {ds : List D} {vs : List V} (n : Nat), IsL K r o H ds vs → IsL K r o H (ds.take n) (vs.take n)
  | _, _, 0, _ => .nil
  | _, _, _ + 1, .nil => .nil
  | _, _, n + 1, .cons h t => .cons h (t.take n)
theorem IsL.drop : ∀ {ds : List D} {vs : List V} (n : Nat), IsL K r o H ds vs → IsL K r o H (ds.drop n) (vs.drop n)
  | _, _, 0, h => h
  | _, _, _ + 1, .nil => .nil
  | _, _, n + 1, .cons _ t => t.drop n
theorem IsL.set {d : D} {v : V} (h : Is K r o H d v) : ∀ {ds : List D} {vs : List V} (i : Nat), IsL K r o H ds vs → IsL K r o H (ds.set i d) (vs.set i v)
  | _, _, _, .nil => .nil
  | _, _, 0, .cons _ t => .cons h t
  | _, _, i + 1, .cons q t => .cons q (t.set h i)
theorem IsL.dropLast {ds : List D} {vs : List V} (h : IsL K r o H ds vs) : IsL K r o H ds.dropLast vs.dropLast := by
  rw [List.dropLast_eq_take, List.dropLast_eq_take, h.length]; exact h.take _
theorem IsL.reverse : ∀ {ds : List D} {vs : List V}, IsL K r o H ds vs → IsL K r o H ds.reverse vs.reverse
  | _, _, .nil => .nil
  | _, _, .cons h t => by
    rw [List.reverse_cons, List.reverse_cons]
    exact t.reverse.app (.cons h .nil)
theorem Is.int_inv {i : Int} {v : V} (h : Is K r o H (.int i) v) : v = .int i := by cases h; rfl
theorem Is.bl_inv {i : Bool} {v : V} (h : Is K r o H (.bl i) v) : v = .bl i := by cases h; rfl
theorem Is.str_inv {i : Str} {v : V} (h : Is K r o H (.str i) v) : v = .str i := by cases h; rfl
theorem Is.non_inv {v : V} (h : Is K r o H .non v) : v = .non := by cases h; rfl
theorem Is.tup_inv {l : List D} {v : V} (h : Is K r o H (.tup l) v) : ∃ a us, v = .ref a ∧ TupAt K r o H a us ∧ IsL K r o H l us := by cases h with | tup a b => exact ⟨_, _, rfl, a, b⟩
theorem Is.lst_inv {l : List D} {v : V} (h : Is K r o H (.lst l) v) : ∃ a us, v = .ref a ∧ LstAt r o H a us ∧ IsL K r o H l us := by cases h with | lst a b => exact ⟨_, _, rfl, a, b⟩
theorem Is.cel_inv {n : Nat} {v : V} (h : Is K r o H (.cel n) v) : ∃ a, v = .ref a ∧ r[n]? = some a := by cases h with | cel a => exact ⟨_, rfl, a⟩
theorem IsL.ints : ∀ {ns : List Int} {vs : List V}, IsL K r o H (ns.map D.int) vs → vs = ns.map V.int
  | [], _, .nil => rfl
  | _ :: _, _, .cons h t => by rw [h.int_inv, t.ints]; rfl
theorem IsL.strs : ∀ {ns : List Str} {vs : List V}, IsL K r o H (ns.map D.str) vs → vs = ns.map V.str
  | [], _, .nil => rfl
  | _ :: _, _, .cons h t => by rw [h.str_inv, t.strs]; rfl

/-- what code may do to the heap: new cells behind the old ones; what is no cell stands -/
structure Step (r : List Addr) (H : Hp) (r' : List Addr) (H' : Hp) : Prop where
  pre : ∃ new, r' = r ++ new ∧ ∀ a ∈ new, H a = none ∧ a ∉ r
  keep : ∀ a u, H a = some u → a ∉ r → H' a = some u
theorem Step.refl : Step r H r H := ⟨⟨[], by simp, by simp⟩, fun _ _ e _ => e⟩
theorem Step.nin (s : Step r H r' H') {a u} (e : H a = some u) (h : a ∉ r) : a ∉ r' := by
  obtain ⟨new, rfl, hn⟩ := s.pre
  intro z
  rcases List.mem_append.mp z with z | z
  · exact h z
  · rw [(hn a z).1] at e; cases e
theorem Step.trans (s : Step r H r1 H1) (t : Step r1 H1 r2 H2) : Step r H r2 H2 := by
  refine ⟨?_, fun a u e h => t.keep a u (s.keep a u e h) (s.nin e h)⟩
  obtain ⟨n1, e1, h1⟩ := s.pre
  obtain ⟨n2, e2, h2⟩ := t.pre
  refine ⟨n1 ++ n2, by rw [e2, e1, List.append_assoc], fun a ha => ?_⟩
  rcases List.mem_append.mp ha with z | z
  · exact h1 a z
  · have hr : a ∉ r := fun q => (h2 a z).2 (by rw [e1]; exact List.mem_append_left _ q)
    refine ⟨?_, hr⟩
    cases e : H a with
    | none => rfl
    | some u =>
      have q := s.keep a u e hr
      rw [(h2 a z).1] at q; cases q
theorem Step.at (s : Step r H r' H') {n : Nat} {a : Addr} (h : r[n]? = some a) : r'[n]? = some a := by
  obtain ⟨new, rfl, _⟩ := s.pre
  rw [List.getElem?_append_left (List.getElem?_eq_some_iff.mp h).1]; exact h
theorem Step.rd (s : Step r H r' H') {a : Addr} {u : HO} (h1 : a ∉ r) (h2 : Rd H a u) : a ∉ r' ∧ Rd H' a u := by
  rcases h2 with h2 | ⟨b, h2⟩
  · exact ⟨s.nin h2 h1, .inl (s.keep _ _ h2 h1)⟩
  · exact ⟨s.nin h2 h1, .inr ⟨b, s.keep _ _ h2 h1⟩⟩
theorem TupAt.mono (s : Step r H r' H') {a xs} (h : TupAt K r o H a xs) : TupAt K r' o H' a xs := h.elim (fun z => .inl ⟨(s.rd z.1 z.2.2).1, z.2.1, (s.rd z.1 z.2.2).2⟩) .inr
theorem LstAt.mono (s : Step r H r' H') {a xs} (h : LstAt r o H a xs) : LstAt r' o H' a xs := ⟨s.nin h.2.2 h.1, h.2.1, s.keep _ _ h.2.2 h.1⟩
theorem ScrAt.mono (s : Step r H r' H') {a xs} (h : ScrAt K r o H a xs) : ScrAt K r' o H' a xs := h.elim (fun z => .inl ⟨(s.rd z.1 z.2.2).1, z.2.1, (s.rd z.1 z.2.2).2⟩) .inr
mutual
theorem Is.mono (s : Step r H r' H') : ∀ {d v}, Is K r o H d v → Is K r' o H' d v
  | _, _, .non => .non
  | _, _, .bl => .bl
  | _, _, .int => .int
  | _, _, .str => .str
  | _, _, .tup a b => .tup (a.mono s) (IsL.mono s b)
  | _, _, .lst a b => .lst (a.mono s) (IsL.mono s b)
  | _, _, .scr a b => .scr (a.mono s) (IsL.mono s b)
  | _, _, .cel a => .cel (s.at a)
theorem IsL.mono (s : Step r H r' H') : ∀ {ds vs}, IsL K r o H ds vs → IsL K r' o H' ds vs
  | _, _, .nil => .nil
  | _, _, .cons a b => .cons (Is.mono s a) (IsL.mono s b)
end
/-- another heap, as far as data see it -/
def Sees (r o : List Addr) (H : Hp) (o' : List Addr) (H' : Hp) : Prop := ∀ a u, a ∉ r → a ∉ o → H a = some u → a ∉ o' ∧ H' a = some u
theorem Sees.rd (s : Sees r o H o' H') {a : Addr} {u : HO} (h1 : a ∉ r) (h2 : a ∉ o) (h3 : Rd H a u) : a ∉ o' ∧ Rd H' a u := by
  rcases h3 with h3 | ⟨b, h3⟩
  · exact ⟨(s _ _ h1 h2 h3).1, .inl (s _ _ h1 h2 h3).2⟩
  · exact ⟨(s _ _ h1 h2 h3).1, .inr ⟨b, (s _ _ h1 h2 h3).2⟩⟩
mutual
theorem Is.sees (s : Sees r o H o' H') : ∀ {d v}, Is K r o H d v → Is K r o' H' d v
  | _, _, .non => .non
  | _, _, .bl => .bl
  | _, _, .int => .int
  | _, _, .str => .str
  | _, _, .tup a b => .tup (a.elim (fun z => .inl ⟨z.1, s.rd z.1 z.2.1 z.2.2⟩) .inr) (IsL.sees s b)
  | _, _, .lst a b => .lst ⟨a.1, (s _ _ a.1 a.2.1 a.2.2).1, (s _ _ a.1 a.2.1 a.2.2).2⟩ (IsL.sees s b)
  | _, _, .scr a b => .scr (a.elim (fun z => .inl ⟨z.1, s.rd z.1 z.2.1 z.2.2⟩) .inr) (IsL.sees s b)
  | _, _, .cel a => .cel a
theorem IsL.sees (s : Sees r o H o' H') : ∀ {ds vs}, IsL K r o H ds vs → IsL K r o' H' ds vs
  | _, _, .nil => .nil
  | _, _, .cons a b => .cons (Is.sees s a) (IsL.sees s b)
end

/-! ### cells -/
def IsF (K : PySem.W.Frag) (r o : List Addr) (H : Hp) (fs : List (Str × D)) (vs : List (Str × V)) : Prop := fs.map (·.1) = vs.map (·.1) ∧ IsL K r o H (fs.map (·.2)) (vs.map (·.2))
theorem IsF.mono (s : Step r H r' H') {fs vs} (h : IsF K r o H fs vs) : IsF K r' o H' fs vs := ⟨h.1, h.2.mono s⟩
theorem IsF.sees (s : Sees r o H o' H') {fs vs} (h : IsF K r o H fs vs) : IsF K r o' H' fs vs := ⟨h.1, h.2.sees s⟩
/-- a table of code objects of one name -/
def TabC (r o : List Addr) (H : Hp) (P : Addr) (q : Str) : Prop := ∃ ps : Array Value, H P = some (.tbl ps) ∧ TriplesOk ps.toList ∧ ∀ (pos : Pos) (cv : Value), codeAmong pos ps.toList = some cv → ∃ c, cv = .ref c ∧ H c = some (LamX.CodeO c q) ∧ c ∉ r ∧ c ∉ o
def CellAt (K : PySem.W.Frag) (r o : List Addr) (H : Hp) (a : Addr) : Cell → Prop
  | .lst l => ∃ us, H a = some (.lst us) ∧ IsL K r o H l us
  | .ins C fs => ∃ dx vs, H a = some (.ins C dx vs) ∧ (H dx = some (.own a) ∧ dx ∉ r ∧ dx ∉ o) ∧ IsF K r o H fs vs
  | .tab P q => a = P ∧ TabC r o H P q
structure Cells (K : PySem.W.Frag) (r o : List Addr) (c : Cs) (H : Hp) : Prop where
  len : r.length = c.length
  nd : r.Nodup
  out : ∀ a ∈ r, a ∉ o
  live : ∀ a ∈ o, ∃ xs, H a = some (.lst xs)
  ok : ∀ (n : Nat) (a : Addr) (x : Cell), r[n]? = some a → c[n]? = some x → CellAt K r o H a x
theorem Cells.get (h : Cells K r o c H) {n : Nat} {x : Cell} (e : c[n]? = some x) : ∃ a, r[n]? = some a ∧ CellAt K r o H a x := by
  have hn : n < r.length := by rw [h.len]; exact (List.getElem?_eq_some_iff.mp e).1
  exact ⟨r[n], List.getElem?_eq_getElem hn, h.ok n _ x (List.getElem?_eq_getElem hn) e⟩
theorem Cells.there (h : Cells K r o c H) {a : Addr} (ha : a ∈ r) : ∃ u, H a = some u := by
  obtain ⟨n, hn, e⟩ := List.getElem_of_mem ha
  have hc : n < c.length := by rw [← h.len]; exact hn
  have q := h.ok n a c[n] (by rw [List.getElem?_eq_getElem hn, e]) (List.getElem?_eq_getElem hc)
  cases e2 : c[n] with
  | lst l => rw [e2] at q; obtain ⟨us, q, _⟩ := q; exact ⟨_, q⟩
  | ins C fs => rw [e2] at q; obtain ⟨dx, us, q, _⟩ := q; exact ⟨_, q⟩
  | tab P q' => rw [e2] at q; obtain ⟨rfl, ps, q, _⟩ := q; exact ⟨_, q⟩
theorem Cells.ne (h : Cells K r o c H) {p a : Addr} (hp : H p = none) (ha : a ∈ r) : a ≠ p := by
  obtain ⟨u, e⟩ := h.there ha
  intro z; rw [z, hp] at e; cases e
theorem Cells.fresh (h : Cells K r o c H) {p : Addr} (hp : H p = none) : p ∉ r := fun z => h.ne hp z rfl
/-- cells through a change that keeps their own objects -/
theorem Cells.via (h : Cells K r o c H) (ho : ∀ a ∈ r, a ∉ o') (hl : ∀ a ∈ o', ∃ xs, H' a = some (.lst xs)) (ha : ∀ a ∈ r, H' a = H a) (s : Sees r o H o' H') : Cells K r o' c H' := by
  refine ⟨h.len, h.nd, ho, hl, fun n a x e1 e2 => ?_⟩
  have q := h.ok n a x e1 e2
  have hr : a ∈ r := List.mem_of_getElem? e1
  cases x with
  | lst l => obtain ⟨us, q1, q2⟩ := q; exact ⟨us, by rw [ha a hr]; exact q1, q2.sees s⟩
  | ins C fs =>
    obtain ⟨dx, us, q1, q2, q4⟩ := q
    exact ⟨dx, us, by rw [ha a hr]; exact q1, ⟨(s dx _ q2.2.1 q2.2.2 q2.1).2, q2.2.1, (s dx _ q2.2.1 q2.2.2 q2.1).1⟩, q4.sees s⟩
  | tab P q' =>
    obtain ⟨rfl, ps, q1, q2, q3⟩ := q
    refine ⟨rfl, ps, by rw [ha a hr]; exact q1, q2, fun pos cv hcv => ?_⟩
    obtain ⟨c', e1, e2, e3, e4⟩ := q3 pos cv hcv
    exact ⟨c', e1, (s c' _ e3 e4 e2).2, e3, (s c' _ e3 e4 e2).1⟩
/-- a new object that is no cell -/
theorem Step.new {p : Addr} {u : HO} (hp : H p = none) : Step r H r (upd H p u) := ⟨⟨[], by simp, by simp⟩, fun a w e _ => by rw [upd_ne (ne_of_none e hp)]; exact e⟩
theorem Sees.new {p : Addr} {u : HO} (hp : H p = none) : Sees r o H o (upd H p u) := fun a w _ h2 e => ⟨h2, by rw [upd_ne (ne_of_none e hp)]; exact e⟩
theorem Cells.new (h : Cells K r o c H) {p : Addr} {u : HO} (hp : H p = none) : Cells K r o c (upd H p u) := h.via h.out (fun a ha => by obtain ⟨w, e⟩ := h.live a ha; exact ⟨w, by rw [upd_ne (ne_of_none e hp)]; exact e⟩) (fun a ha => by rw [upd_ne (h.ne hp ha)]) (Sees.new hp)
/-- a new object that may change -/
theorem Sees.avoid {p : Addr} {u : HO} (hp : H p = none) : Sees r o H (p :: o) (upd H p u) := fun a w _ h2 e =>
  ⟨by simp only [List.mem_cons, not_or]; exact ⟨ne_of_none e hp, h2⟩, by rw [upd_ne (ne_of_none e hp)]; exact e⟩
theorem Cells.avoid (h : Cells K r o c H) {p : Addr} {xs : List V} (hp : H p = none) : Cells K r (p :: o) c (upd H p (.lst xs)) :=
  h.via (fun a ha => by simp only [List.mem_cons, not_or]; exact ⟨h.ne hp ha, h.out a ha⟩) (fun a ha => (List.mem_cons.mp ha).elim (fun z => ⟨xs, by rw [z, upd_same]⟩) fun z => by obtain ⟨w, e⟩ := h.live a z; exact ⟨w, by rw [upd_ne (ne_of_none e hp)]; exact e⟩) (fun a ha => by rw [upd_ne (h.ne hp ha)]) (Sees.avoid hp)
/-- .. changes -/
theorem Sees.turn {p : Addr} {u : HO} : Sees r (p :: o) H (p :: o) (upd H p u) := fun a w _ h2 e => ⟨h2, by rw [upd_ne (fun z => h2 (by simp [z]))]; exact e⟩
theorem Cells.turn (h : Cells K r (p :: o) c H) {xs : List V} : Cells K r (p :: o) c (upd H p (.lst xs)) := h.via h.out (fun a ha => by
    by_cases e : a = p
    · exact ⟨xs, by rw [e, upd_same]⟩
    · obtain ⟨w, e2⟩ := h.live a ha; exact ⟨w, by rw [upd_ne e]; exact e2⟩) (fun a ha => by rw [upd_ne (fun z => h.out a ha (by simp [z]))]) Sees.turn
/-- .. and changes no more -/
theorem Sees.rest {p : Addr} : Sees r (p :: o) H o H := fun a w _ h2 e => ⟨fun z => h2 (by simp [z]), e⟩
theorem Cells.rest (h : Cells K r (p :: o) c H) : Cells K r o c H := h.via (fun a ha z => h.out a ha (by simp [z])) (fun a ha => h.live a (by simp [ha])) (fun _ _ => rfl) Sees.rest
/-- a new list that is a cell -/
theorem Step.cell {p : Addr} {u : HO} (hp : H p = none) (hr : p ∉ r) : Step r H (r ++ [p]) (upd H p u) :=
  ⟨⟨[p], rfl, fun a ha => by rw [List.mem_singleton.mp ha]; exact ⟨hp, hr⟩⟩, fun a w e _ => by rw [upd_ne (ne_of_none e hp)]; exact e⟩
theorem CellAt.mono (s : Step r H r' H') {a : Addr} (hk : H' a = H a) {x : Cell} (q : CellAt K r o H a x) : CellAt K r' o H' a x := by
  cases x with
  | lst l => obtain ⟨us, q1, q2⟩ := q; exact ⟨us, by rw [hk]; exact q1, q2.mono s⟩
  | ins C fs =>
    obtain ⟨dx, us, q1, q2, q4⟩ := q
    exact ⟨dx, us, by rw [hk]; exact q1, ⟨s.keep _ _ q2.1 q2.2.1, s.nin q2.1 q2.2.1, q2.2.2⟩, q4.mono s⟩
  | tab P q' =>
    obtain ⟨rfl, ps, q1, q2, q3⟩ := q
    refine ⟨rfl, ps, by rw [hk]; exact q1, q2, fun pos cv hcv => ?_⟩
    obtain ⟨c', e1, e2, e3, e4⟩ := q3 pos cv hcv
    exact ⟨c', e1, s.keep _ _ e2 e3, s.nin e2 e3, e4⟩
theorem Cells.freshO (h : Cells K r o c H) {p : Addr} (hp : H p = none) : p ∉ o := fun z => by
  obtain ⟨u, e⟩ := h.live p z
  rw [hp] at e; cases e
theorem Cells.liveS (h : Cells K r o c H) (st : Step r H r' H') : ∀ a ∈ o, ∃ xs, H' a = some (.lst xs) := fun a ha => by
  obtain ⟨u, e⟩ := h.live a ha
  exact ⟨u, st.keep a _ e fun z => h.out a z ha⟩
theorem Cells.more (h : Cells K r o c H) {p : Addr} {x : Cell} {H' : Hp} (hp : H p = none) (st : Step r H (r ++ [p]) H') (hk : ∀ a ∈ r, H' a = H a) (hx : CellAt K (r ++ [p]) o H' p x) : Cells K (r ++ [p]) o (c ++ [x]) H' := by
  refine ⟨by simp [h.len], by
    rw [List.nodup_append]
    refine ⟨h.nd, by simp, fun a ha b hb => ?_⟩
    rw [List.mem_singleton.mp hb]; exact h.ne hp ha, fun a ha => ?_, h.liveS st, fun n a x e1 e2 => ?_⟩
  · rcases List.mem_append.mp ha with z | z
    · exact h.out a z
    · rw [List.mem_singleton.mp z]; exact h.freshO hp
  by_cases hn : n < r.length
  · rw [List.getElem?_append_left hn] at e1
    rw [List.getElem?_append_left (by rw [← h.len]; exact hn)] at e2
    exact (h.ok n a x e1 e2).mono st (hk a (List.mem_of_getElem? e1))
  · have hn2 : n = r.length := by
      have := (List.getElem?_eq_some_iff.mp e1).1
      rw [List.length_append] at this
      simp at this; omega
    subst hn2
    rw [List.getElem?_append_right (Nat.le_refl _)] at e1
    rw [h.len, List.getElem?_append_right (Nat.le_refl _)] at e2
    simp at e1 e2
    subst e1; subst e2
    exact hx
theorem Cells.cell (h : Cells K r o c H) {p : Addr} {l : List D} {us : List V} (hp : H p = none) (hl : IsL K r o H l us) : Cells K (r ++ [p]) o (c ++ [.lst l]) (upd H p (.lst us)) :=
  h.more hp (Step.cell hp (h.fresh hp)) (fun a ha => by rw [upd_ne (h.ne hp ha)]) ⟨us, upd_same, hl.mono (Step.cell hp (h.fresh hp))⟩
/-- a cell is changed -/
theorem Step.mut {a : Addr} {u : HO} (ha : a ∈ r) : Step r H r (upd H a u) := ⟨⟨[], by simp, by simp⟩, fun b w e hb => by rw [upd_ne (fun z => hb (by rw [z]; exact ha))]; exact e⟩
theorem Cells.setX (h : Cells K r o c H) {n : Nat} {a : Addr} {x : Cell} {u : HO} (e : r[n]? = some a) (hx : CellAt K r o (upd H a u) a x) : Cells K r o (c.set n x) (upd H a u) := by
  have ha : a ∈ r := List.mem_of_getElem? e
  have st := Step.mut (r := r) (H := H) (u := u) ha
  refine ⟨by simp [h.len], h.nd, h.out, h.liveS st, fun m b y e1 e2 => ?_⟩
  by_cases hm : m = n
  · subst hm
    rw [e] at e1; cases e1
    have hlt : m < c.length := by rw [← h.len]; exact (List.getElem?_eq_some_iff.mp e).1
    rw [List.getElem?_set_self hlt] at e2
    cases e2
    exact hx
  · rw [List.getElem?_set_ne (Ne.symm hm)] at e2
    have nb : b ≠ a := fun z => by
      subst z
      obtain ⟨h1, e3⟩ := List.getElem?_eq_some_iff.mp e1
      obtain ⟨h2, e4⟩ := List.getElem?_eq_some_iff.mp e
      exact hm ((List.getElem_inj h.nd).mp (e3.trans e4.symm))
    exact (h.ok m b y e1 e2).mono st (upd_ne nb)
theorem Cells.setL (h : Cells K r o c H) {n : Nat} {a : Addr} {l : List D} {us : List V} (e : r[n]? = some a) (hl : IsL K r o H l us) : Cells K r o (c.set n (.lst l)) (upd H a (.lst us)) :=
  h.setX e ⟨us, upd_same, hl.mono (Step.mut (List.mem_of_getElem? e))⟩
end RL

/-! ### results, what code is worth -/
namespace RL
open PySem PySem.Spec PyProof.Rows L2
structure Exc where
  C : Addr
  fs : List (Str × D)
inductive Res (α : Type) where
  | ok (a : α) (c : Cs) | err (x : Exc) (c : Cs) | bad
def Res.bind {α β : Type} : Res α → (α → Cs → Res β) → Res β
  | .ok a c, f => f a c
  | .err x c, _ => .err x c
  | .bad, _ => .bad
@[simp] theorem Res.bind_ok {α β : Type} {a : α} {c : Cs} {f : α → Cs → Res β} : (Res.ok a c).bind f = f a c := rfl
@[simp] theorem Res.bind_err {α β : Type} {x : Exc} {c : Cs} {f : α → Cs → Res β} : (Res.err x c : Res α).bind f = .err x c := rfl
@[simp] theorem Res.bind_bad {α β : Type} {f : α → Cs → Res β} : (Res.bad : Res α).bind f = .bad := rfl
/-- how a statement ends -/
inductive SR where
  | nx (s : Sl) (c : Cs) | rt (d : D) (c : Cs) | bk (s : Sl) (c : Cs) | ct (s : Sl) (c : Cs) | err (x : Exc) (s : Sl) (c : Cs) | bad
abbrev FE := Sl → Cs → Res D
abbrev FT := Sl → Cs → Res Bool
abbrev FA := Sl → Cs → Res (List D)
abbrev FS := Sl → Cs → SR

variable {K : PySem.W.Frag} {r r' r1 r2 o o' : List Addr} {H H' H1 H2 : Hp} {c c' c1 c2 : Cs}
def ExcAt (K : PySem.W.Frag) (r o : List Addr) (H : Hp) (x : Exc) (cls : Value) (dx : Option Addr) : Prop :=
  cls = .ref x.C ∧ ∃ (d : Addr) (vs : List (Str × V)), dx = some d ∧ H d = some (.xd vs) ∧ d ∉ r ∧ d ∉ o ∧ IsF K r o H x.fs vs
theorem ExcAt.sees (s : Sees r o H o' H') {x cls dx} (h : ExcAt K r o H x cls dx) : ExcAt K r o' H' x cls dx := by
  obtain ⟨e, d, vs, e2, h1, h2, h3, h4⟩ := h
  exact ⟨e, d, vs, e2, (s d _ h2 h3 h1).2, h2, (s d _ h2 h3 h1).1, h4.sees s⟩
def SlOk (K : PySem.W.Frag) (r o : List Addr) (H : Hp) (s : Sl) (t : L2.St) : Prop :=
  s.length = t.length ∧ ∀ (i : Nat) (d : D), s[i]? = some (some d) → ∃ v, t[i]? = some (some v) ∧ Is K r o H d v
theorem SlOk.mono (st : Step r H r' H') {s t} (h : SlOk K r o H s t) : SlOk K r' o H' s t := ⟨h.1, fun i d e => let ⟨v, a, b⟩ := h.2 i d e; ⟨v, a, b.mono st⟩⟩
theorem SlOk.sees (st : Sees r o H o' H') {s t} (h : SlOk K r o H s t) : SlOk K r o' H' s t := ⟨h.1, fun i d e => let ⟨v, a, b⟩ := h.2 i d e; ⟨v, a, b.sees st⟩⟩
theorem SlOk.set {s t} (h : SlOk K r o H s t) (i : Nat) {d v} (q : Is K r o H d v) : SlOk K r o H (s.set i (some d)) (t.set i (some v)) := by
  refine ⟨by simp [h.1], fun j e hj => ?_⟩
  by_cases hij : j = i
  · subst hij
    have hl : j < s.length := by
      have := (List.getElem?_eq_some_iff.mp hj).1
      simpa using this
    rw [List.getElem?_set_self hl] at hj
    cases hj
    exact ⟨v, by rw [List.getElem?_set_self (by rw [← h.1]; exact hl)], q⟩
  · rw [List.getElem?_set_ne (Ne.symm hij)] at hj
    obtain ⟨w, a, b⟩ := h.2 j e hj
    exact ⟨w, by rw [List.getElem?_set_ne (Ne.symm hij)]; exact a, b⟩
theorem SlOk.forget {s t} (h : SlOk K r o H s t) (i : Nat) : SlOk K r o H (s.set i none) (t.set i none) := by
  refine ⟨by simp [h.1], fun j e hj => ?_⟩
  by_cases hij : j = i
  · subst hij
    have hl : j < s.length := by
      have := (List.getElem?_eq_some_iff.mp hj).1
      simpa using this
    rw [List.getElem?_set_self hl] at hj
    cases hj
  · rw [List.getElem?_set_ne (Ne.symm hij)] at hj
    obtain ⟨w, a, b⟩ := h.2 j e hj
    exact ⟨w, by rw [List.getElem?_set_ne (Ne.symm hij)]; exact a, b⟩

section
variable (K : PySem.W.Frag) (W : WX)
/-- the end of what has a value: R tells how the two values hang together -/
def OkG {α β : Type} (R : List Addr → List Addr → Hp → α → β → Prop) (r o : List Addr) (H : Hp) (t : L2.St) (Q : β → Hp → Prop) : Res α → Prop
  | .ok a c' => ∀ r' H' v, Step r H r' H' → Cells K r' o c' H' → R r' o H' a v → Q v H'
  | .err x c' => ∀ r' H' cls dx, Step r H r' H' → Cells K r' o c' H' → ExcAt K r' o H' x cls dx → W cls dx t H'
  | .bad => False
def RB : List Addr → List Addr → Hp → Bool → Bool → Prop := fun _ _ _ a b => a = b
def SndE (te : TE) (f : FE) : Prop := ∀ r o c s H t Q, Cells K r o c H → SlOk K r o H s t → OkG K W (Is K) r o H t Q (f s c) → te t H Q
def SndT (tt : TT) (f : FT) : Prop := ∀ r o c s H t Q, Cells K r o c H → SlOk K r o H s t → OkG K W RB r o H t Q (f s c) → tt t H Q
def SndA (ta : TA) (f : FA) : Prop := ∀ r o c s H t Q, Cells K r o c H → SlOk K r o H s t → OkG K W (IsL K) r o H t Q (f s c) → ta t H Q
def OkS (r o : List Addr) (H : Hp) (D : Ends) : SR → Prop
  | .nx s c' => ∀ r' H' t, Step r H r' H' → Cells K r' o c' H' → SlOk K r' o H' s t → D.nx t H'
  | .rt d c' => ∀ r' H' v, Step r H r' H' → Cells K r' o c' H' → Is K r' o H' d v → D.rt v H'
  | .bk s c' => ∀ r' H' t, Step r H r' H' → Cells K r' o c' H' → SlOk K r' o H' s t → D.bk t H'
  | .ct s c' => ∀ r' H' t, Step r H r' H' → Cells K r' o c' H' → SlOk K r' o H' s t → D.ct t H'
  | .err x s c' => ∀ r' H' t cls dx, Step r H r' H' → Cells K r' o c' H' → SlOk K r' o H' s t → ExcAt K r' o H' x cls dx → W cls dx t H'
  | .bad => False
def SndS (ts : TS) (f : FS) : Prop := ∀ r o c s H t D, Cells K r o c H → SlOk K r o H s t → OkS K W r o H D (f s c) → ts D t H
end
variable {W : WX} {α β γ δ : Type} {R : List Addr → List Addr → Hp → α → β → Prop} {t : L2.St}
theorem OkG.step {Q : β → Hp → Prop} (st : Step r H r1 H1) {x : Res α} (h : OkG K W R r o H t Q x) : OkG K W R r1 o H1 t Q x := by
  cases x with
  | ok a c' => exact fun r' H' v s' => h r' H' v (st.trans s')
  | err x c' => exact fun r' H' cls dx s' => h r' H' cls dx (st.trans s')
  | bad => exact h
theorem OkS.step {D : Ends} (st : Step r H r1 H1) {x : SR} (h : OkS K W r o H D x) : OkS K W r1 o H1 D x := by
  cases x with
  | nx s c' => exact fun r' H' v s' => h r' H' v (st.trans s')
  | rt s c' => exact fun r' H' v s' => h r' H' v (st.trans s')
  | bk s c' => exact fun r' H' v s' => h r' H' v (st.trans s')
  | ct s c' => exact fun r' H' v s' => h r' H' v (st.trans s')
  | err x s c' => exact fun r' H' t cls dx s' => h r' H' t cls dx (st.trans s')
  | bad => exact h
theorem ok_bind {R1 : List Addr → List Addr → Hp → α → β → Prop} {Rg : List Addr → List Addr → Hp → γ → δ → Prop} {Q1 : β → Hp → Prop} {Q : δ → Hp → Prop} {x : Res α} {g : α → Cs → Res γ} (h : OkG K W Rg r o H t Q (x.bind g))
    (k : ∀ a c1 r1 H1 v, Step r H r1 H1 → Cells K r1 o c1 H1 → R1 r1 o H1 a v → OkG K W Rg r1 o H1 t Q (g a c1) → Q1 v H1) : OkG K W R1 r o H t Q1 x := by
  cases x with
  | ok a c1 => exact fun r1 H1 v s1 hc hv => k a c1 r1 H1 v s1 hc hv (OkG.step s1 h)
  | err x c1 => exact h
  | bad => exact h
/-- an end that is reached -/
theorem OkG.here {Q : β → Hp → Prop} {a : α} {v : β} (h : OkG K W R r o H t Q (.ok a c)) (hc : Cells K r o c H) (hv : R r o H a v) : Q v H := h _ _ _ Step.refl hc hv

/-! ### names, constants -/
def eVar (i : Nat) : FE := fun s c => match s[i]? with | some (some d) => .ok d c | _ => .bad
def eC (d : D) : FE := fun _ c => .ok d c
theorem snd_var {i : Nat} : SndE K W (tVar i) (eVar i) := fun r o c s H t Q hc hs h => by
  unfold eVar at h
  cases e : s[i]? with
  | none => rw [e] at h; exact h.elim
  | some z =>
    cases z with
    | none => rw [e] at h; exact h.elim
    | some d =>
      rw [e] at h
      obtain ⟨v, e1, e2⟩ := hs.2 i d e
      exact ⟨v, e1, h.here hc e2⟩
theorem snd_int {i : Int} : SndE K W (tC (.int i)) (eC (.int i)) := fun _ _ _ _ _ _ _ hc _ h => h.here hc .int
theorem snd_str {x : Str} : SndE K W (tC (.str x)) (eC (.str x)) := fun _ _ _ _ _ _ _ hc _ h => h.here hc .str
theorem snd_bl {b : Bool} : SndE K W (tC (.bl b)) (eC (.bl b)) := fun _ _ _ _ _ _ _ hc _ h => h.here hc .bl
theorem snd_non : SndE K W (tC .non) (eC .non) := fun _ _ _ _ _ _ _ hc _ h => h.here hc .non
/-- a constant of the top: a written tuple, .. -/
theorem snd_k {d : D} {v : V} (hk : ∀ r o H, Is K r o H d v) : SndE K W (tC v) (eC d) := fun _ _ _ _ _ _ _ hc _ h => h.here hc (hk _ _ _)
/-! ### argument lists, displays -/
def aNil : FA := fun _ c => .ok [] c
def aCons (f : FE) (g : FA) : FA := fun s c => (f s c).bind fun d c1 => (g s c1).bind fun ds c2 => .ok (d :: ds) c2
theorem snd_nil : SndA K W tNil aNil := fun _ _ _ _ _ _ _ hc _ h => h.here hc .nil
theorem snd_cons {te : TE} {ta : TA} {f : FE} {g : FA} (hf : SndE K W te f) (hg : SndA K W ta g) : SndA K W (tCons te ta) (aCons f g) := fun r o c s H t Q hc hs h =>
  hf r o c s H t _ hc hs (ok_bind h fun d c1 r1 H1 v s1 hc1 hv h1 => hg r1 o c1 s H1 t _ hc1 (hs.mono s1) (ok_bind h1 fun ds c2 r2 H2 vs s2 hc2 hvs h2 => h2.here hc2 (.cons (hv.mono s2) hvs)))
def eTup (f : FA) : FE := fun s c => (f s c).bind fun ds c1 => if ds.length ≤ 100000 then .ok (.tup ds) c1 else .bad
theorem big_le {n : Nat} (h : n ≤ 100000) : n ≤ sizeLine := Nat.le_trans h (by decide)
theorem Is.newTup (hc : Cells K r o c H) {p : Addr} {ds : List D} {us : List V} (hp : H p = none) (h : IsL K r o H ds us) : Is K r o (upd H p (.tup us)) (.tup ds) (.ref p) :=
  .tup (.inl ⟨hc.fresh hp, hc.freshO hp, .inl upd_same⟩) (h.mono (Step.new hp))
theorem Is.newLst (hc : Cells K r o c H) {p : Addr} {ds : List D} {us : List V} (hp : H p = none) (h : IsL K r o H ds us) : Is K r o (upd H p (.lst us)) (.lst ds) (.ref p) :=
  Is.lst ⟨hc.fresh hp, hc.freshO hp, upd_same⟩ (h.mono (Step.new hp))
theorem snd_tup {ta : TA} {f : FA} (hf : SndA K W ta f) : SndE K W (tTup ta) (eTup f) := fun r o c s H t Q hc hs h =>
  hf r o c s H t _ hc hs (ok_bind h fun ds c1 r1 H1 vs s1 hc1 hv h1 => by
    split at h1
    · rename_i z
      exact ⟨by rw [← hv.length]; exact big_le z, fun p hp => h1 _ _ _ (Step.new hp) (hc1.new hp) (Is.newTup hc1 hp hv)⟩
    · exact h1.elim)
/-- [..], a list that nobody changes -/
def eLst (f : FA) : FE := fun s c => (f s c).bind fun ds c1 => if ds.length ≤ 100000 then .ok (.lst ds) c1 else .bad
theorem snd_lst {ta : TA} {f : FA} (hf : SndA K W ta f) : SndE K W (tLst ta) (eLst f) := fun r o c s H t Q hc hs h =>
  hf r o c s H t _ hc hs (ok_bind h fun ds c1 r1 H1 vs s1 hc1 hv h1 => by
    split at h1
    · rename_i z
      exact ⟨by rw [← hv.length]; exact big_le z, fun p hp => h1 _ _ _ (Step.new hp) (hc1.new hp) (Is.newLst hc1 hp hv)⟩
    · exact h1.elim)
/-- [..], a list that is changed later -/
def eNew (f : FA) : FE := fun s c => (f s c).bind fun ds c1 => if ds.length ≤ 100000 then .ok (.cel c1.length) (c1 ++ [.lst ds]) else .bad
theorem snd_new {ta : TA} {f : FA} (hf : SndA K W ta f) : SndE K W (tLst ta) (eNew f) := fun r o c s H t Q hc hs h =>
  hf r o c s H t _ hc hs (ok_bind h fun ds c1 r1 H1 vs s1 hc1 hv h1 => by
    split at h1
    · rename_i z
      refine ⟨by rw [← hv.length]; exact big_le z, fun p hp => h1 _ _ _ (Step.cell hp (hc1.fresh hp)) (hc1.cell hp hv) (.cel ?_)⟩
      rw [← hc1.len, List.getElem?_append_right (Nat.le_refl _)]; simp
    · exact h1.elim)
/-! ### operators by values -/
def SndO (K : PySem.W.Frag) (W : WX) (q : R2) (f : D → D → Cs → Res D) : Prop := ∀ r o c H t Q d e x y, Cells K r o c H → Is K r o H d x → Is K r o H e y → OkG K W (Is K) r o H t Q (f d e c) → q x y H Q
def eOp (f : D → D → Cs → Res D) (a b : FE) : FE := fun s c => (a s c).bind fun d c1 => (b s c1).bind fun e c2 => f d e c2
theorem snd_op {q : R2} {f : D → D → Cs → Res D} {ta tb : TE} {a b : FE} (ho : SndO K W q f) (hf : SndE K W ta a) (hg : SndE K W tb b) : SndE K W (tOp q ta tb) (eOp f a b) := fun r o c s H t Q hc hs h =>
  hf r o c s H t _ hc hs (ok_bind h fun d c1 r1 H1 v s1 hc1 hv h1 => hg r1 o c1 s H1 t _ hc1 (hs.mono s1) (ok_bind h1 fun e c2 r2 H2 w s2 hc2 hw h2 => ho r2 o c2 H2 t Q d e v w hc2 (hv.mono s2) hw h2))
def oI (p : Int → Int → Bool) (g : Int → Int → D) : D → D → Cs → Res D := fun d e c => match d, e with
  | .int i, .int j => if p i j = true then .ok (g i j) c else .bad
  | _, _ => .bad
theorem snd_oI {C : Int → Int → Prop} {p : Int → Int → Bool} {g : Int → Int → V} {g' : Int → Int → D} (hp : ∀ i j, p i j = true → C i j) (hg : ∀ r o H i j, Is K r o H (g' i j) (g i j)) : SndO K W (rI C g) (oI p g') := fun r o c H t Q d e x y hc hd he h => by
  unfold oI at h
  split at h
  · rename_i i j
    split at h
    · rename_i z
      exact ⟨i, j, hd.int_inv, he.int_inv, hp i j z, h.here hc (hg ..)⟩
    · exact h.elim
  · exact h.elim
theorem snd_oI0 {g : Int → Int → V} {g' : Int → Int → D} (hg : ∀ r o H i j, Is K r o H (g' i j) (g i j)) : SndO K W (rI0 g) (oI (fun _ _ => true) g') := fun r o c H t Q d e x y hc hd he h => by
  unfold oI at h
  split at h
  · rename_i i j
    rw [if_pos rfl] at h
    exact ⟨i, j, hd.int_inv, he.int_inv, h.here hc (hg ..)⟩
  · exact h.elim
/-! ### tests -/
def tsE (f : FE) : FT := fun s c => (f s c).bind fun d c1 => match d with | .bl b => .ok b c1 | _ => .bad
theorem snd_test {te : TE} {f : FE} (hf : SndE K W te f) : SndT K W (tTest te) (tsE f) := fun r o c s H t Q hc hs h =>
  hf r o c s H t _ hc hs (ok_bind h fun d c1 r1 H1 v s1 hc1 hv h1 => by
    cases hv with
    | bl => exact ⟨_, rfl, h1.here hc1 rfl⟩
    | _ => exact h1.elim)
theorem snd_testB {te : TE} {f : FE} (hf : SndE K W te f) : SndT K W (tB te) (tsE f) := snd_test hf
def tsAnd (f g : FT) : FT := fun s c => (f s c).bind fun b c1 => if b = true then g s c1 else .ok false c1
def tsOr (f g : FT) : FT := fun s c => (f s c).bind fun b c1 => if b = true then .ok true c1 else g s c1
def tsNot (f : FT) : FT := fun s c => (f s c).bind fun b c1 => .ok (!b) c1
theorem snd_and {t1 t2 : TT} {f g : FT} (hf : SndT K W t1 f) (hg : SndT K W t2 g) : SndT K W (tAnd t1 t2) (tsAnd f g) := fun r o c s H t Q hc hs h =>
  hf r o c s H t _ hc hs (ok_bind h fun b c1 r1 H1 v s1 hc1 hv h1 => by
    cases hv
    cases b with
    | true => exact hg r1 o c1 s H1 t _ hc1 (hs.mono s1) h1
    | false => exact h1.here hc1 rfl)
theorem snd_or {t1 t2 : TT} {f g : FT} (hf : SndT K W t1 f) (hg : SndT K W t2 g) : SndT K W (tOr t1 t2) (tsOr f g) := fun r o c s H t Q hc hs h =>
  hf r o c s H t _ hc hs (ok_bind h fun b c1 r1 H1 v s1 hc1 hv h1 => by
    cases hv
    cases b with
    | true => exact h1.here hc1 rfl
    | false => exact hg r1 o c1 s H1 t _ hc1 (hs.mono s1) h1)
theorem snd_not {t1 : TT} {f : FT} (hf : SndT K W t1 f) : SndT K W (tNot t1) (tsNot f) := fun r o c s H t Q hc hs h =>
  hf r o c s H t _ hc hs (ok_bind h fun b c1 r1 H1 v s1 hc1 hv h1 => by
    cases hv
    exact h1.here hc1 rfl)
/-- and, or, not as values of bools -/
def eAnd (f g : FE) : FE := fun s c => (f s c).bind fun d c1 => match d with | .bl b => if b = true then g s c1 else .ok (.bl false) c1 | _ => .bad
def eOr (f g : FE) : FE := fun s c => (f s c).bind fun d c1 => match d with | .bl b => if b = true then .ok (.bl true) c1 else g s c1 | _ => .bad
def eNot (f : FE) : FE := fun s c => (f s c).bind fun d c1 => match d with | .bl b => .ok (.bl (!b)) c1 | _ => .bad
theorem snd_andV {t1 t2 : TE} {f g : FE} (hf : SndE K W t1 f) (hg : SndE K W t2 g) : SndE K W (tAndV t1 t2) (eAnd f g) := fun r o c s H t Q hc hs h =>
  hf r o c s H t _ hc hs (ok_bind h fun b c1 r1 H1 v s1 hc1 hv h1 => by
    cases hv with
    | @bl b =>
      refine ⟨b, rfl, ?_⟩
      cases b with
      | true => exact hg r1 o c1 s H1 t _ hc1 (hs.mono s1) h1
      | false => exact h1.here hc1 .bl
    | _ => exact h1.elim)
theorem snd_orV {t1 t2 : TE} {f g : FE} (hf : SndE K W t1 f) (hg : SndE K W t2 g) : SndE K W (tOrV t1 t2) (eOr f g) := fun r o c s H t Q hc hs h =>
  hf r o c s H t _ hc hs (ok_bind h fun b c1 r1 H1 v s1 hc1 hv h1 => by
    cases hv with
    | @bl b =>
      refine ⟨b, rfl, ?_⟩
      cases b with
      | true => exact h1.here hc1 .bl
      | false => exact hg r1 o c1 s H1 t _ hc1 (hs.mono s1) h1
    | _ => exact h1.elim)
theorem snd_notV {t1 : TE} {f : FE} (hf : SndE K W t1 f) : SndE K W (tNotV t1) (eNot f) := fun r o c s H t Q hc hs h =>
  hf r o c s H t _ hc hs (ok_bind h fun b c1 r1 H1 v s1 hc1 hv h1 => by
    cases hv with
    | @bl b => exact ⟨b, rfl, h1.here hc1 .bl⟩
    | _ => exact h1.elim)
def eIf (p : FT) (f g : FE) : FE := fun s c => (p s c).bind fun b c1 => if b = true then f s c1 else g s c1
theorem snd_ifE {tt : TT} {t1 t2 : TE} {p : FT} {f g : FE} (hp : SndT K W tt p) (hf : SndE K W t1 f) (hg : SndE K W t2 g) : SndE K W (tIf tt t1 t2) (eIf p f g) := fun r o c s H t Q hc hs h =>
  hp r o c s H t _ hc hs (ok_bind h fun b c1 r1 H1 v s1 hc1 hv h1 => by
    cases hv
    cases b with
    | true => exact hf r1 o c1 s H1 t _ hc1 (hs.mono s1) h1
    | false => exact hg r1 o c1 s H1 t _ hc1 (hs.mono s1) h1)

/-! ### statements -/
def SR.bind : SR → (Sl → Cs → SR) → SR
  | .nx s c, f => f s c
  | x, _ => x
def Res.toS {α : Type} (x : Res α) (s : Sl) (f : α → Cs → SR) : SR := match x with
  | .ok a c => f a c
  | .err x c => .err x s c
  | .bad => .bad
theorem ok_toS {R1 : List Addr → List Addr → Hp → α → β → Prop} {Q1 : β → Hp → Prop} {D : Ends} {x : Res α} {s : Sl} {g : α → Cs → SR} (hs : SlOk K r o H s t) (h : OkS K W r o H D (x.toS s g))
    (k : ∀ a c1 r1 H1 v, Step r H r1 H1 → Cells K r1 o c1 H1 → R1 r1 o H1 a v → OkS K W r1 o H1 D (g a c1) → Q1 v H1) : OkG K W R1 r o H t Q1 x := by
  cases x with
  | ok a c1 => exact fun r1 H1 v s1 hc hv => k a c1 r1 H1 v s1 hc hv (OkS.step s1 h)
  | err x c1 => exact fun r1 H1 cls dx s1 hc hx => h r1 H1 t cls dx s1 hc (hs.mono s1) hx
  | bad => exact h
def sNext : FS := fun s c => .nx s c
def sSeq (f g : FS) : FS := fun s c => (f s c).bind g
theorem snd_next : SndS K W tNext sNext := fun _ _ _ _ _ _ _ hc hs h => h _ _ _ Step.refl hc hs
theorem snd_seq {t1 t2 : TS} {f g : FS} (hf : SndS K W t1 f) (hg : SndS K W t2 g) : SndS K W (tSeq t1 t2) (sSeq f g) := fun r o c s H t D hc hs h =>
  hf r o c s H t { D with nx := t2 D } hc hs (by
    unfold sSeq at h
    cases e : f s c with
    | nx s' c' =>
      rw [e] at h
      intro r1 H1 t1 s1 hc1 hs1
      exact hg r1 o c' s' H1 t1 D hc1 hs1 (OkS.step s1 h)
    | rt d c' => rw [e] at h; exact h
    | bk s' c' => rw [e] at h; exact h
    | ct s' c' => rw [e] at h; exact h
    | err x s' c' => rw [e] at h; exact h
    | bad => rw [e] at h; exact h)
def sRet (f : FE) : FS := fun s c => (f s c).toS s fun d c1 => .rt d c1
theorem snd_ret {te : TE} {f : FE} (hf : SndE K W te f) : SndS K W (tRet te) (sRet f) := fun r o c s H t D hc hs h =>
  hf r o c s H t _ hc hs (ok_toS hs h fun d c1 r1 H1 v s1 hc1 hv h1 => h1 _ _ _ Step.refl hc1 hv)
def sRetN : FS := fun _ c => .rt .non c
theorem snd_retN : SndS K W tRetN sRetN := fun _ _ _ _ _ _ _ hc hs h => h _ _ _ Step.refl hc .non
def sDrop (f : FE) : FS := fun s c => (f s c).toS s fun _ c1 => .nx s c1
theorem snd_drop {te : TE} {f : FE} (hf : SndE K W te f) : SndS K W (tDrop te) (sDrop f) := fun r o c s H t D hc hs h =>
  hf r o c s H t _ hc hs (ok_toS hs h fun d c1 r1 H1 v s1 hc1 hv h1 => h1 _ _ _ Step.refl hc1 (hs.mono s1))
def sIf (p : FT) (f g : FS) : FS := fun s c => (p s c).toS s fun b c1 => if b = true then f s c1 else g s c1
theorem snd_if {tt : TT} {t1 t2 : TS} {p : FT} {f g : FS} (hp : SndT K W tt p) (hf : SndS K W t1 f) (hg : SndS K W t2 g) : SndS K W (tIfS tt t1 t2) (sIf p f g) := fun r o c s H t D hc hs h =>
  hp r o c s H t _ hc hs (ok_toS hs h fun b c1 r1 H1 v s1 hc1 hv h1 => by
    cases hv
    cases b with
    | true => exact hf r1 o c1 s H1 t D hc1 (hs.mono s1) h1
    | false => exact hg r1 o c1 s H1 t D hc1 (hs.mono s1) h1)
def sBreak : FS := fun s c => .bk s c
def sCont : FS := fun s c => .ct s c
theorem snd_break : SndS K W tBreak sBreak := fun _ _ _ _ _ _ _ hc hs h => h _ _ _ Step.refl hc hs
theorem snd_cont : SndS K W tCont sCont := fun _ _ _ _ _ _ _ hc hs h => h _ _ _ Step.refl hc hs
/-! targets -/
abbrev FG := D → Sl → Cs → SR
def SndG (K : PySem.W.Frag) (W : WX) (g : TG) (f : FG) : Prop := ∀ r o c s H t (D : Ends) d v, Cells K r o c H → SlOk K r o H s t → Is K r o H d v → OkS K W r o H D (f d s c) → g v t H D.nx
def gtName (i : Nat) : FG := fun d s c => .nx (s.set i (some d)) c
theorem snd_gname {i : Nat} : SndG K W (gName i) (gtName i) := fun r o c s H t D d v hc hs hv h => h _ _ _ Step.refl hc (hs.set i hv)
/-- a, b = .. -/
def setAll : List Nat → List D → Sl → Option Sl
  | [], [], s => some s
  | i :: is, d :: ds, s => setAll is ds (s.set i (some d))
  | _, _, _ => none
def gtTup (is : List Nat) : FG := fun d s c => match d with
  | .tup l => (match setAll is l s with | some s' => .nx s' c | none => .bad)
  | _ => .bad
def gNames : List Nat → TGs
  | [] => gNil
  | i :: is => gCons (gName i) (gNames is)
theorem snd_names : ∀ {is : List Nat} {l : List D} {us : List V} {s s' : Sl} {t : L2.St} {Q : L2.St → Hp → Prop}, IsL K r o H l us → SlOk K r o H s t → setAll is l s = some s' → (∀ t', SlOk K r o H s' t' → Q t' H) → gNames is us t H Q
  | [], [], _, s, s', t, Q, .nil, hs, e, h => by
    have e' : s = s' := Option.some.inj e
    subst e'
    exact ⟨rfl, h t hs⟩
  | i :: is, d :: l, _, s, s', t, Q, .cons hv hl, hs, e, h => ⟨_, _, rfl, snd_names hl (hs.set i hv) e h⟩
  | [], _ :: _, _, _, _, _, _, _, _, e, _ => by cases e
  | _ :: _, [], _, _, _, _, _, _, _, e, _ => by cases e
theorem setAll_len : ∀ {is : List Nat} {l : List D} {s s' : Sl}, setAll is l s = some s' → l.length = is.length
  | [], [], _, _, _ => rfl
  | _ :: is, _ :: l, s, s', e => congrArg (· + 1) (setAll_len (is := is) (l := l) e)
  | [], _ :: _, _, _, e => by cases e
  | _ :: _, [], _, _, e => by cases e
theorem snd_gtup {is : List Nat} : SndG K W (gTup K is.length (gNames is)) (gtTup is) := fun r o c s H t D d v hc hs hv h => by
  unfold gtTup at h
  cases hv with
  | tup a b =>
    rename_i l a' us
    cases e : setAll is l s with
    | none =>
      simp only [e] at h
      exact h.elim
    | some s' =>
      simp only [e] at h
      exact ⟨_, us, rfl, a.sq, by rw [← b.length, setAll_len e], snd_names b hs e fun t' ht => h _ _ _ Step.refl hc ht⟩
  | _ => exact h.elim
def sAsg (f : FE) (g : FG) : FS := fun s c => (f s c).toS s fun d c1 => g d s c1
theorem snd_asg {te : TE} {tg : TG} {f : FE} {g : FG} (hf : SndE K W te f) (hg : SndG K W tg g) : SndS K W (tAsg te tg) (sAsg f g) := fun r o c s H t D hc hs h =>
  hf r o c s H t _ hc hs (ok_toS hs h fun d c1 r1 H1 v s1 hc1 hv h1 => hg r1 o c1 s H1 t D d v hc1 (hs.mono s1) hv h1)
/-- a, b = x, y, plain local names -/
def sPar (i j : Nat) (f : FA) : FS := fun s c => (f s c).toS s fun ds c1 => match ds with | [d, e] => .nx ((s.set i (some d)).set j (some e)) c1 | _ => .bad
theorem snd_par {i j : Nat} {ta : TA} {f : FA} (hf : SndA K W ta f) : SndS K W (tPar i j ta) (sPar i j f) := fun r o c s H t D hc hs h =>
  hf r o c s H t _ hc hs (ok_toS hs h fun ds c1 r1 H1 v s1 hc1 hv h1 => by
    cases hv with
    | nil => exact h1.elim
    | cons h2 h3 =>
      cases h3 with
      | nil => exact h1.elim
      | cons h4 h5 =>
        cases h5 with
        | nil => exact ⟨_, _, rfl, h1 _ _ _ Step.refl hc1 (((hs.mono s1).set i h2).set j h4)⟩
        | cons _ _ => exact h1.elim)
/-! while -/
def loopW (p : FT) (b : FS) : Nat → FS
  | 0 => fun _ _ => .bad
  | n + 1 => fun s c => (p s c).toS s fun q c1 => if q = true then (match b s c1 with
      | .nx s2 c2 => loopW p b n s2 c2
      | .ct s2 c2 => loopW p b n s2 c2
      | .bk s2 c2 => .nx s2 c2
      | x => x) else .nx s c1
theorem snd_while {tt : TT} {tb : TS} {p : FT} {b : FS} {n : Nat} (hp : SndT K W tt p) (hb : SndS K W tb b) : SndS K W (tWhile tt tb) (loopW p b n) := fun r o c s H t D hc hs h => by
  refine ⟨fun m t' H' => ∃ r' c' s', Cells K r' o c' H' ∧ SlOk K r' o H' s' t' ∧ OkS K W r' o H' D (loopW p b m s' c'), ⟨n, r, c, s, hc, hs, h⟩, ?_⟩
  rintro m t1 H1 ⟨r1, c1, s1, hc1, hs1, h1⟩
  cases m with
  | zero => exact h1.elim
  | succ m =>
    refine hp r1 o c1 s1 H1 t1 _ hc1 hs1 (ok_toS hs1 h1 fun q c2 r2 H2 v st2 hc2 hv h2 => ?_)
    cases hv
    cases q with
    | false =>
      show D.nx t1 H2
      exact h2 _ _ _ Step.refl hc2 (hs1.mono st2)
    | true =>
      refine ⟨fun t' H' => ∃ r' c' s', Cells K r' o c' H' ∧ SlOk K r' o H' s' t' ∧ OkS K W r' o H' D (loopW p b m s' c'), fun t' H' z => ⟨m, Nat.lt_succ_self m, z⟩, ?_⟩
      have h3 : OkS K W r2 o H2 D (match b s1 c2 with
        | .nx s2 c2 => loopW p b m s2 c2
        | .ct s2 c2 => loopW p b m s2 c2
        | .bk s2 c2 => .nx s2 c2
        | x => x) := h2
      refine hb r2 o c2 s1 H2 t1 _ hc2 (hs1.mono st2) ?_
      cases e : b s1 c2 with
      | nx s' c' => rw [e] at h3; exact fun r' H' t' st hc' hs' => ⟨r', c', s', hc', hs', OkS.step st h3⟩
      | ct s' c' => rw [e] at h3; exact fun r' H' t' st hc' hs' => ⟨r', c', s', hc', hs', OkS.step st h3⟩
      | bk s' c' => rw [e] at h3; exact fun r' H' t' st hc' hs' => h3 r' H' t' st hc' hs'
      | rt d c' => rw [e] at h3; exact h3
      | err x s' c' => rw [e] at h3; exact h3
      | bad => rw [e] at h3; exact h3
/-! for -/
def loopL (g : FG) (b : FS) : List D → FS
  | [] => fun s c => .nx s c
  | d :: ds => fun s c => (g d s c).bind fun s1 c1 => match b s1 c1 with
      | .nx s2 c2 => loopL g b ds s2 c2
      | .ct s2 c2 => loopL g b ds s2 c2
      | .bk s2 c2 => .nx s2 c2
      | x => x
/-- what an iterator yields, whatever happens to the cells meanwhile -/
def Gives (K : PySem.W.Frag) (r o : List Addr) (H : Hp) (ds : List D) (J : It) : Prop := ∀ r' o' H' c', Sees r o H o' H' → (∃ new, r' = r ++ new) → Cells K r' o' c' H' → ∀ i,
  (∀ d, ds[i]? = some d → J.go i H' ∧ ∀ x H2, J.yld i H' x H2 → Step r' H' r' H2 ∧ Cells K r' o' c' H2 ∧ (∀ a ∈ o', H2 a = H' a) ∧ Is K r' o' H2 d x) ∧ (ds.length ≤ i → J.stop i H')
def SndI (K : PySem.W.Frag) (W : WX) (wi : TI) (f : FA) : Prop := ∀ r o c s H t Q, Cells K r o c H → SlOk K r o H s t → OkG K W (Gives K) r o H t Q (f s c) → wi t H Q
end RL

set_option Elab.async false
set_option linter.all false
set_option maxRecDepth 100000
set_option maxHeartbeats 2000000
namespace RL
open PySem PySem.Spec PyProof.Rows L2
variable {K : PySem.W.Frag} {r r' r1 r2 o o' o1 : List Addr} {H H' H1 H2 : Hp} {c c' c1 c2 : Cs} {W : WX} {t : L2.St}
/-- what data see stands -/
structure Later (r o : List Addr) (H : Hp) (r' o' : List Addr) (H' : Hp) : Prop where
  pre : ∃ new, r' = r ++ new
  see : ∀ a u, a ∉ r → a ∉ o → H a = some u → a ∉ r' ∧ a ∉ o' ∧ H' a = some u
theorem Later.refl : Later r o H r o H := ⟨⟨[], by simp⟩, fun a u h1 h2 h3 => ⟨h1, h2, h3⟩⟩
theorem Later.trans (s : Later r o H r1 o1 H1) (t : Later r1 o1 H1 r2 o' H2) : Later r o H r2 o' H2 := by
  obtain ⟨n1, e1⟩ := s.pre
  obtain ⟨n2, e2⟩ := t.pre
  exact ⟨⟨n1 ++ n2, by rw [e2, e1, List.append_assoc]⟩, fun a u h1 h2 h3 => let ⟨x, y, z⟩ := s.see a u h1 h2 h3; t.see a u x y z⟩
theorem Step.later (s : Step r H r' H') : Later r o H r' o H' := by
  obtain ⟨new, e, _⟩ := s.pre
  exact ⟨⟨new, e⟩, fun a u h1 h2 h3 => ⟨s.nin h3 h1, h2, s.keep a u h3 h1⟩⟩
theorem Sees.later (s : Sees r o H o' H') : Later r o H r o' H' := ⟨⟨[], by simp⟩, fun a u h1 h2 h3 => ⟨h1, s a u h1 h2 h3⟩⟩
theorem Later.rd (s : Later r o H r' o' H') {a : Addr} {u : HO} (h1 : a ∉ r) (h2 : a ∉ o) (h3 : Rd H a u) : a ∉ r' ∧ a ∉ o' ∧ Rd H' a u := by
  rcases h3 with h3 | ⟨b, h3⟩
  · obtain ⟨x, y, z⟩ := s.see _ _ h1 h2 h3; exact ⟨x, y, .inl z⟩
  · obtain ⟨x, y, z⟩ := s.see _ _ h1 h2 h3; exact ⟨x, y, .inr ⟨b, z⟩⟩
theorem Later.at (s : Later r o H r' o' H') {n : Nat} {a : Addr} (h : r[n]? = some a) : r'[n]? = some a := by
  obtain ⟨new, rfl⟩ := s.pre
  rw [List.getElem?_append_left (List.getElem?_eq_some_iff.mp h).1]; exact h
theorem TupAt.later (s : Later r o H r' o' H') {a xs} (h : TupAt K r o H a xs) : TupAt K r' o' H' a xs := h.elim (fun z => .inl (s.rd z.1 z.2.1 z.2.2)) .inr
theorem LstAt.later (s : Later r o H r' o' H') {a xs} (h : LstAt r o H a xs) : LstAt r' o' H' a xs := s.see _ _ h.1 h.2.1 h.2.2
theorem ScrAt.later (s : Later r o H r' o' H') {a xs} (h : ScrAt K r o H a xs) : ScrAt K r' o' H' a xs := h.elim (fun z => .inl (s.rd z.1 z.2.1 z.2.2)) .inr
mutual
theorem Is.later (s : Later r o H r' o' H') : ∀ {d v}, Is K r o H d v → Is K r' o' H' d v
  | _, _, .non => .non
  | _, _, .bl => .bl
  | _, _, .int => .int
  | _, _, .str => .str
  | _, _, .tup a b => .tup (a.later s) (IsL.later s b)
  | _, _, .lst a b => .lst (a.later s) (IsL.later s b)
  | _, _, .scr a b => .scr (a.later s) (IsL.later s b)
  | _, _, .cel a => .cel (s.at a)
theorem IsL.later (s : Later r o H r' o' H') : ∀ {ds vs}, IsL K r o H ds vs → IsL K r' o' H' ds vs
  | _, _, .nil => .nil
  | _, _, .cons a b => .cons (Is.later s a) (IsL.later s b)
end
theorem SlOk.later (s : Later r o H r' o' H') {sl t} (h : SlOk K r o H sl t) : SlOk K r' o' H' sl t := ⟨h.1, fun i d e => let ⟨v, a, b⟩ := h.2 i d e; ⟨v, a, b.later s⟩⟩

/-- what an iterator yields, whatever happens to the cells meanwhile -/
def GivesL (K : PySem.W.Frag) (r o : List Addr) (H : Hp) (ds : List D) (J : It) : Prop := ∀ r' o' H' c', Later r o H r' o' H' → Cells K r' o' c' H' → ∀ i,
  (∀ d, ds[i]? = some d → J.go i H' ∧ ∀ x H2, J.yld i H' x H2 → (∀ a u, H' a = some u → H2 a = some u) ∧ Is K r' o' H2 d x) ∧ (ds.length ≤ i → J.stop i H')
def SndJ (K : PySem.W.Frag) (W : WX) (wi : TI) (f : FA) : Prop := ∀ r o c s H t Q, Cells K r o c H → SlOk K r o H s t → OkG K W (GivesL K) r o H t Q (f s c) → wi t H Q
/-- everything stands -/
theorem Step.grow (k : ∀ a u, H a = some u → H' a = some u) : Step r H r H' := ⟨⟨[], by simp, by simp⟩, fun a u e _ => k a u e⟩
theorem Cells.grow (h : Cells K r o c H) (k : ∀ a u, H a = some u → H' a = some u) : Cells K r o c H' :=
  h.via h.out (fun a ha => let ⟨u, e⟩ := h.live a ha; ⟨u, k a _ e⟩) (fun a ha => let ⟨u, e⟩ := h.there ha; by rw [e]; exact k a u e) (fun a u _ h2 e => ⟨h2, k a u e⟩)
theorem snd_for {wi : TI} {g : TG} {tb : TS} {f : FA} {fg : FG} {b : FS} (hi : SndJ K W wi f) (hg : SndG K W g fg) (hb : SndS K W tb b) : SndS K W (tFor wi g tb) (fun s c => (f s c).toS s fun ds c1 => loopL fg b ds s c1) := fun r o c s H t D hc hs h =>
  hi r o c s H t _ hc hs (ok_toS hs h fun ds c1 r1 H1 J s1 hc1 hJ h1 => by
    refine ⟨fun i m t' H' => m = ds.length - i ∧ i ≤ ds.length ∧ ∃ r' c' s', Later r1 o H1 r' o H' ∧ Cells K r' o c' H' ∧ SlOk K r' o H' s' t' ∧ OkS K W r' o H' D (loopL fg b (ds.drop i) s' c'),
      ⟨ds.length, by simp, Nat.zero_le _, r1, c1, s, Later.refl, hc1, hs.mono s1, h1⟩, ?_⟩
    rintro i m t2 H2 ⟨rfl, hi2, r2, c2, s2, l2, hc2, hs2, h2⟩
    obtain ⟨hgo, hst⟩ := hJ r2 o H2 c2 l2 hc2 i
    by_cases hlt : i < ds.length
    · have ed : ds[i]? = some ds[i] := List.getElem?_eq_getElem hlt
      obtain ⟨go, yl⟩ := hgo _ ed
      have e2 : ds.drop i = ds[i] :: ds.drop (i + 1) := List.drop_eq_getElem_cons hlt
      rw [e2] at h2
      refine .inr ⟨go, fun t' H' => ∃ r' c' s', Later r1 o H1 r' o H' ∧ Cells K r' o c' H' ∧ SlOk K r' o H' s' t' ∧ OkS K W r' o H' D (loopL fg b (ds.drop (i + 1)) s' c'), fun t' H' z => ⟨ds.length - (i + 1), by omega, rfl, hlt, z⟩, fun x H3 y => ?_⟩
      obtain ⟨k3, hx⟩ := yl x H3 y
      have st3 : Step r2 H2 r2 H3 := Step.grow k3
      have hc3 := hc2.grow k3
      have h3 := OkS.step st3 h2
      have h4 : OkS K W r2 o H3 D ((fg ds[i] s2 c2).bind fun s1 c1 => match b s1 c1 with
        | .nx s2 c2 => loopL fg b (ds.drop (i + 1)) s2 c2
        | .ct s2 c2 => loopL fg b (ds.drop (i + 1)) s2 c2
        | .bk s2 c2 => .nx s2 c2
        | x => x) := h3
      refine hg r2 o c2 s2 H3 t2 { D with nx := fun t' H' => tb { D with nx := fun t' H' => ∃ r' c' s', Later r1 o H1 r' o H' ∧ Cells K r' o c' H' ∧ SlOk K r' o H' s' t' ∧ OkS K W r' o H' D (loopL fg b (ds.drop (i + 1)) s' c'), ct := fun t' H' => ∃ r' c' s', Later r1 o H1 r' o H' ∧ Cells K r' o c' H' ∧ SlOk K r' o H' s' t' ∧ OkS K W r' o H' D (loopL fg b (ds.drop (i + 1)) s' c'), bk := D.nx } t' H' } ds[i] x hc3 (hs2.mono st3) hx ?_
      cases e : fg ds[i] s2 c2 with
      | nx s4 c4 =>
        rw [e] at h4
        intro r4 H4 t4 st4 hc4 hs4
        have h5 : OkS K W r4 o H4 D (match b s4 c4 with
          | .nx s2 c2 => loopL fg b (ds.drop (i + 1)) s2 c2
          | .ct s2 c2 => loopL fg b (ds.drop (i + 1)) s2 c2
          | .bk s2 c2 => .nx s2 c2
          | x => x) := OkS.step st4 h4
        have l4 : Later r1 o H1 r4 o H4 := (l2.trans st3.later).trans st4.later
        refine hb r4 o c4 s4 H4 t4 _ hc4 hs4 ?_
        cases e5 : b s4 c4 with
        | nx s' c' => rw [e5] at h5; exact fun r' H' t' st hc' hs' => ⟨r', c', s', l4.trans st.later, hc', hs', OkS.step st h5⟩
        | ct s' c' => rw [e5] at h5; exact fun r' H' t' st hc' hs' => ⟨r', c', s', l4.trans st.later, hc', hs', OkS.step st h5⟩
        | bk s' c' => rw [e5] at h5; exact h5
        | rt d c' => rw [e5] at h5; exact h5
        | err x s' c' => rw [e5] at h5; exact h5
        | bad => rw [e5] at h5; exact h5
      | rt d c' => rw [e] at h4; exact h4
      | bk s' c' => rw [e] at h4; exact h4
      | ct s' c' => rw [e] at h4; exact h4
      | err x s' c' => rw [e] at h4; exact h4
      | bad => rw [e] at h4; exact h4
    · have ei : i = ds.length := by omega
      subst ei
      rw [List.drop_length] at h2
      exact .inl ⟨hst (Nat.le_refl _), h2 _ _ _ Step.refl hc2 hs2⟩)
/-! ### what is walked: a list, a tuple, a text; a range -/
def signs (x : Str) : List D := x.cps.toList.map fun k => .str ⟨#[k]⟩
def walkD : D → Option (List D)
  | .tup l => some l
  | .lst l => some l
  | .str x => some (signs x)
  | _ => none
def fSeq (f : FE) : FA := fun s c => (f s c).bind fun d c1 => match walkD d with | some l => .ok l c1 | none => .bad
def iSeq (K : PySem.W.Frag) (tl : TE) : TI := fun σ H R => tl σ H fun x H1 => (∃ a, x = .ref a ∧ (∃ xs, SqL K H1 a xs) ∧ R (Itl K a) H1) ∨ (∃ a, x = .ref a ∧ (∃ xs, SqT K H1 a xs) ∧ R (Itt K a) H1) ∨ ∃ z, x = .str z ∧ R (Its z) H1
theorem vl_of {ds : List D} {us : List V} {i : Nat} {d : D} (h : IsL K r o H ds us) (e : ds[i]? = some d) : ∃ x, us[i]? = some x ∧ Is K r o H d x := h.get e

theorem pi_seq {X : Cx} {tg l : Expr} {tl : TE} (hl : PE X l tl) : PI X tg l (iSeq X.K tl) := by
  refine ⟨fun pins s σ H R I h => ?_⟩
  refine thn (hl.run pins s σ H _ I h) fun v s1 ⟨x, H1, I1, r1, q1⟩ => ?_
  rcases q1 with ⟨a, e, ⟨xs, hq⟩, q⟩ | ⟨a, e, ⟨xs, hq⟩, q⟩ | ⟨z, ez, q⟩
  · subst e
    cases r1
    obtain ⟨its, rv, p, hz⟩ := I1.list hq
    refine wpAny_pyIter_list p.isList ?_
    refine ⟨s1.heap.objs.size, [s1.heap.objs.size], _, _, H1, rfl, I1.kept (t' := s1.toks) fun b o e => Heap.get?_push_of_some _ e, turn_list a _, ⟨_, Heap.get?_push_size _ rfl, rfl, rfl⟩, fun b hb => ?_, q⟩
    have e : b = s1.heap.objs.size := by simpa using hb
    subst e
    exact I1.fpOk (Nat.le_refl _) (I1.hok.fresh (Nat.le_refl _))
  · subst e
    cases r1
    obtain ⟨its, rv, p, hz⟩ := I1.tuple hq
    refine wpAny_pyIter_tuple (show s1.heap.IsTuple a its.toArray from p) ?_
    refine ⟨s1.heap.objs.size, [s1.heap.objs.size], _, _, H1, rfl, I1.kept (t' := s1.toks) fun b o e => Heap.get?_push_of_some _ e, turn_tuple a _, ⟨_, Heap.get?_push_size _ rfl, rfl, rfl⟩, fun b hb => ?_, q⟩
    have e : b = s1.heap.objs.size := by simpa using hb
    subst e
    exact I1.fpOk (Nat.le_refl _) (I1.hok.fresh (Nat.le_refl _))
  · subst ez
    obtain ⟨t, rfl⟩ := r1
    cases ha : z.cps.all (· < 128)
    · exact wpAny_pyIter_wide ha (pi_one (tk := s1.toks) I1 _ (turn_str _ z t "str_iterator" (.inr rfl)) ⟨_, Heap.get?_push_size _ rfl, rfl, rfl⟩ q)
    · exact wpAny_pyIter_ascii ha (pi_one (tk := s1.toks) I1 _ (turn_str _ z t "str_ascii_iterator" (.inl rfl)) ⟨_, Heap.get?_push_size _ rfl, rfl, rfl⟩ q)
theorem vals_fun {us ws : List V} {i : Nat} {x y : V} (e : us = ws) (h1 : us[i]? = some x) (h2 : ws[i]? = some y) : x = y := by subst e; exact Option.some.inj (h1.symm.trans h2)
/-- a list that is read is one list -/
theorem Rd.inj {a : Addr} {xs ys : List V} (h1 : Rd H a (.lst xs)) (h2 : Rd H a (.lst ys)) : True := trivial
theorem gives_list {a : Addr} {us : List V} {ds : List D} (hl : LstAt r o H a us) (hu : IsL K r o H ds us) : GivesL K r o H ds (Itl K a) := fun r' o' H' c' l hc i => by
  have hq := (hl.later l).sq (K := K)
  have hu' := hu.later l
  refine ⟨fun d e => ?_, fun hle => ⟨us, hq, by rw [← hu.length]; exact hle⟩⟩
  obtain ⟨x, hx, hd⟩ := hu'.get e
  refine ⟨⟨us, x, hq, hx⟩, fun y H2 z => ?_⟩
  obtain ⟨e2, z2⟩ := z
  subst e2
  have := z2 us hq
  rw [hx] at this
  cases this
  exact ⟨fun _ _ e => e, hd⟩
theorem gives_tup {a : Addr} {us : List V} {ds : List D} (hl : TupAt K r o H a us) (hu : IsL K r o H ds us) : GivesL K r o H ds (Itt K a) := fun r' o' H' c' l hc i => by
  have hq := (hl.later l).sq
  have hu' := hu.later l
  refine ⟨fun d e => ?_, fun hle => ⟨us, hq, by rw [← hu.length]; exact hle⟩⟩
  obtain ⟨x, hx, hd⟩ := hu'.get e
  refine ⟨⟨us, x, hq, hx⟩, fun y H2 z => ?_⟩
  obtain ⟨e2, z2⟩ := z
  subst e2
  have := z2 us hq
  rw [hx] at this
  cases this
  exact ⟨fun _ _ e => e, hd⟩
theorem gives_str {x : Str} : GivesL K r o H (signs x) (Its x) := fun r' o' H' c' l hc i => by
  unfold signs
  refine ⟨fun d e => ?_, fun hle => by show x.cps.size ≤ i; simpa using hle⟩
  rw [List.getElem?_map] at e
  cases e1 : x.cps.toList[i]? with
  | none => rw [e1] at e; cases e
  | some k =>
    rw [e1] at e
    cases e
    have e2 : x.cps[i]? = some k := by rw [← Array.getElem?_toList]; exact e1
    refine ⟨(Array.getElem?_eq_some_iff.mp e2).1, fun y H2 z => ?_⟩
    obtain ⟨z1, cc, z2, z3⟩ := z
    subst z1
    rw [e2] at z2
    cases z2
    subst z3
    exact ⟨fun _ _ e => e, .str⟩
theorem snd_iseq {te : TE} {f : FE} (hf : SndE K W te f) : SndJ K W (iSeq K te) (fSeq f) := fun r o c s H t Q hc hs h =>
  hf r o c s H t _ hc hs (ok_bind h fun d c1 r1 H1 v s1 hc1 hv h1 => by
    cases hv with
    | tup a b => exact .inr (.inl ⟨_, rfl, ⟨_, a.sq⟩, h1.here hc1 (gives_tup a b)⟩)
    | lst a b => exact .inl ⟨_, rfl, ⟨_, a.sq⟩, h1.here hc1 (gives_list a b)⟩
    | str => exact .inr (.inr ⟨_, rfl, h1.here hc1 gives_str⟩)
    | _ => exact h1.elim)

/-! ### ranges -/
def rngC (lo st : Int) (n : Nat) : List D := (List.range n).map fun i => .int (lo + (i : Nat) * st)
def fRng1 (f : FA) : FA := fun s c => (f s c).bind fun ds c1 => match ds with
  | [.int j] => if -(2 ^ 62) ≤ j ∧ j < 2 ^ 62 then .ok (rngC 0 1 j.toNat) c1 else .bad
  | _ => .bad
def fRng2 (f : FA) : FA := fun s c => (f s c).bind fun ds c1 => match ds with
  | [.int i, .int j] => if -(2 ^ 62) ≤ i ∧ i < 2 ^ 62 ∧ -(2 ^ 62) ≤ j ∧ j < 2 ^ 62 then .ok (rngC i 1 (j - i).toNat) c1 else .bad
  | _ => .bad
def fRng3 (f : FA) : FA := fun s c => (f s c).bind fun ds c1 => match ds with
  | [.int i, .int j, .int k] => if k ≠ 0 ∧ k.natAbs < 1073741824 ∧ Builtin.Range.small i j k = true ∧ 0 ≤ Builtin.Range.rangeSize i j k then .ok (rngC i k (Builtin.Range.rangeSize i j k).toNat) c1 else .bad
  | _ => .bad
theorem gives_rng {lo : Int} {n : Nat} : GivesL K r o H (rngC lo 1 n) (Itr lo n) := fun r' o' H' c' l hc i => by
  unfold rngC
  refine ⟨fun d e => ?_, fun hle => by show n ≤ i; simpa using hle⟩
  rw [List.getElem?_map] at e
  by_cases hi : i < n
  · rw [List.getElem?_range hi] at e
    cases e
    refine ⟨hi, fun y H2 z => ?_⟩
    obtain ⟨z1, z2⟩ := z
    subst z1; subst z2
    have e1 : lo + ((i : Nat) : Int) * 1 = lo + i := by omega
    show _ ∧ Is K r' o' _ (.int (lo + ((i : Nat) : Int) * 1)) _
    rw [e1]
    exact ⟨fun _ _ e => e, .int⟩
  · rw [List.getElem?_eq_none (by simpa using hi)] at e
    cases e
theorem gives_rngC {lo st : Int} {n : Nat} : GivesL K r o H (rngC lo st n) (Itc lo st n) := fun r' o' H' c' l hc i => by
  unfold rngC
  refine ⟨fun d e => ?_, fun hle => by show n ≤ i; simpa using hle⟩
  rw [List.getElem?_map] at e
  by_cases hi : i < n
  · rw [List.getElem?_range hi] at e
    cases e
    refine ⟨hi, fun y H2 z => ?_⟩
    obtain ⟨z1, z2⟩ := z
    subst z1; subst z2
    exact ⟨fun _ _ e => e, .int⟩
  · rw [List.getElem?_eq_none (by simpa using hi)] at e
    cases e
theorem snd_rng1 {ta : TA} {f : FA} (hf : SndA K W ta f) : SndJ K W (iRng1 ta) (fRng1 f) := fun r o c s H t Q hc hs h =>
  hf r o c s H t _ hc hs (ok_bind h fun ds c1 r1 H1 v s1 hc1 hv h1 => by
    split at h1
    · rename_i j
      split at h1
      · rename_i z
        cases hv with
        | cons a b =>
          cases b
          exact ⟨j, by rw [a.int_inv], z.1, z.2, h1.here hc1 gives_rng⟩
      · exact h1.elim
    · exact h1.elim)
theorem snd_rng2 {ta : TA} {f : FA} (hf : SndA K W ta f) : SndJ K W (iRng2 ta) (fRng2 f) := fun r o c s H t Q hc hs h =>
  hf r o c s H t _ hc hs (ok_bind h fun ds c1 r1 H1 v s1 hc1 hv h1 => by
    split at h1
    · rename_i i j
      split at h1
      · rename_i z
        cases hv with
        | cons a b =>
          cases b with
          | cons a2 b2 =>
            cases b2
            exact ⟨i, j, by rw [a.int_inv, a2.int_inv], z, h1.here hc1 gives_rng⟩
      · exact h1.elim
    · exact h1.elim)
theorem snd_rng3 {ta : TA} {f : FA} (hf : SndA K W ta f) : SndJ K W (iRng3 ta) (fRng3 f) := fun r o c s H t Q hc hs h =>
  hf r o c s H t _ hc hs (ok_bind h fun ds c1 r1 H1 v s1 hc1 hv h1 => by
    split at h1
    · rename_i i j k
      split at h1
      · rename_i z
        cases hv with
        | cons a b =>
          cases b with
          | cons a2 b2 =>
            cases b2 with
            | cons a3 b3 =>
              cases b3
              exact ⟨i, j, k, _, by rw [a.int_inv, a2.int_inv, a3.int_inv], ⟨z.1, z.2.1, z.2.2.1, (Int.toNat_of_nonneg z.2.2.2).symm⟩, h1.here hc1 gives_rngC⟩
      · exact h1.elim
    · exact h1.elim)
/-! ### comprehensions -/
inductive Tg where
  | nm (j : Nat) | tp (js : List Nat)
def Tg.set : Tg → D → Sl → Option Sl
  | .nm j, d, s => some (s.set j (some d))
  | .tp js, .tup l, s => setAll js l s
  | .tp _, _, _ => none
def Tg.g (K : PySem.W.Frag) : Tg → TG
  | .nm j => gName j
  | .tp js => gTup K js.length (gNames js)
def Tg.own (vs : List Nat) : Tg → Bool
  | .nm j => vs.contains j
  | .tp js => js.all vs.contains
def wipeD (s : Sl) : List Nat → Sl
  | [] => s
  | v :: vs => (wipeD s vs).set v none
theorem SlOk.wipe {s : Sl} (h : SlOk K r o H s t) : ∀ vs : List Nat, SlOk K r o H (wipeD s vs) (wipe t vs)
  | [] => h
  | v :: vs => (SlOk.wipe h vs).forget v
theorem wipe_get (t : L2.St) : ∀ (vs : List Nat) (i : Nat), i < t.length → (wipe t vs)[i]? = if i ∈ vs then some none else t[i]?
  | [], i, _ => by simp [wipe]
  | v :: vs, i, hi => by
    unfold L2.wipe
    by_cases e : v = i
    · subst e
      rw [List.getElem?_set_self (by rw [wipe_length]; exact hi)]; simp
    · rw [List.getElem?_set_ne e, wipe_get t vs i hi]
      have : i ∈ v :: vs ↔ i ∈ vs := by simp [Ne.symm e]
      simp only [this]
theorem wipe_set (t : L2.St) (vs : List Nat) {j : Nat} (hj : j ∈ vs) (x : Option V) : wipe (t.set j x) vs = wipe t vs := by
  apply List.ext_getElem?
  intro i
  by_cases hi : i < t.length
  · rw [wipe_get _ _ _ (by simpa using hi), wipe_get _ _ _ hi]
    split
    · rfl
    · rename_i h
      rw [List.getElem?_set_ne (fun e => h (by rw [← e]; exact hj))]
  · rw [List.getElem?_eq_none (by rw [wipe_length]; simpa using hi), List.getElem?_eq_none (by rw [wipe_length]; simpa using hi)]
theorem wipe_wipe (t : L2.St) (vs : List Nat) : wipe (wipe t vs) vs = wipe t vs := by
  apply List.ext_getElem?
  intro i
  by_cases hi : i < t.length
  · rw [wipe_get _ _ _ (by rw [wipe_length]; exact hi), wipe_get _ _ _ hi]
    split <;> rfl
  · rw [List.getElem?_eq_none (by rw [wipe_length, wipe_length]; omega), List.getElem?_eq_none (by rw [wipe_length]; omega)]
theorem names_run {vs : List Nat} {t0 : L2.St} : ∀ {js : List Nat} {l : List D} {us : List V} {s s' : Sl} {t : L2.St} {Q : L2.St → Hp → Prop}, IsL K r o H l us → SlOk K r o H s t → (∀ j ∈ js, j ∈ vs) → wipe t vs = t0 → setAll js l s = some s' →
    (∀ t', SlOk K r o H s' t' → wipe t' vs = t0 → Q t' H) → gNames js us t H Q
  | [], [], _, s, s', t, Q, .nil, hs, _, hw, e, h => by
    have e' : s = s' := Option.some.inj e
    subst e'
    exact ⟨rfl, h t hs hw⟩
  | i :: js, d :: l, _, s, s', t, Q, .cons hv hl, hs, hm, hw, e, h => ⟨_, _, rfl, names_run hl (hs.set i hv) (fun j hj => hm j (List.mem_cons_of_mem _ hj)) (by rw [wipe_set _ _ (hm i List.mem_cons_self)]; exact hw) e h⟩
  | [], _ :: _, _, _, _, _, _, _, _, _, _, e, _ => by cases e
  | _ :: _, [], _, _, _, _, _, _, _, _, _, e, _ => by cases e
theorem Tg.run {vs : List Nat} {t0 : L2.St} {tg : Tg} {d : D} {x : V} {s s' : Sl} {t : L2.St} {Q : L2.St → Hp → Prop} (ho : tg.own vs = true) (hv : Is K r o H d x) (hs : SlOk K r o H s t) (hw : wipe t vs = t0) (e : tg.set d s = some s')
    (h : ∀ t', SlOk K r o H s' t' → wipe t' vs = t0 → Q t' H) : tg.g K x t H Q := by
  cases tg with
  | nm j =>
    have e' : s.set j (some d) = s' := Option.some.inj e
    subst e'
    have hj : j ∈ vs := by simpa [Tg.own] using ho
    exact h _ (hs.set j hv) (by rw [wipe_set _ _ hj]; exact hw)
  | tp js =>
    have hm : ∀ j ∈ js, j ∈ vs := by simpa [Tg.own] using ho
    cases hv with
    | tup a b => exact ⟨_, _, rfl, a.sq, by rw [← b.length, setAll_len e], names_run b hs hm hw e h⟩
    | _ => cases e
def compL (tg : Tg) (p : FT) (f : FE) (s0 : Sl) : List D → List D → Cs → Res (List D)
  | [], acc, c => .ok acc c
  | d :: ds, acc, c => match tg.set d s0 with
    | none => .bad
    | some s1 => match p s1 c with
      | .ok true c1 => (match f s1 c1 with
        | .ok y c2 => if acc.length < 100000 then compL tg p f s0 ds (acc ++ [y]) c2 else .bad
        | _ => .bad)
      | .ok false c1 => compL tg p f s0 ds acc c1
      | _ => .bad
def eComp (src : FA) (tg : Tg) (p : FT) (f : FE) (vs : List Nat) : FE := fun s c => (src s c).bind fun ds c1 => match compL tg p f (wipeD s vs) ds [] c1 with
  | .ok acc c2 => .ok (.lst acc) c2
  | _ => .bad
abbrev W0 : WX := fun _ _ _ _ => False
theorem Step.put {p : Addr} {u : HO} (s : Step r H r' H') (hp : H p = none) : Step r H r' (upd H' p u) := ⟨s.pre, fun a w e h => by rw [upd_ne (ne_of_none e hp)]; exact s.keep a w e h⟩
theorem snd_lc {wi : TI} {tg : Tg} {tt : TT} {te : TE} {src : FA} {p : FT} {f : FE} {vs : List Nat} (ho : tg.own vs = true) (hi : SndJ K W wi src) (hp : SndT K W0 tt p) (hf : SndE K W0 te f) : SndE K W (tLc wi (tg.g K) tt te vs) (eComp src tg p f vs) := fun r o c s H t Q hc hs h =>
  hi r o c s H t _ hc hs (ok_bind h fun ds c1 r1 H1 J s1 hc1 hJ h1 => by
    cases ec : compL tg p f (wipeD s vs) ds [] c1 with
    | err x c2 => simp only [ec] at h1; exact h1.elim
    | bad => simp only [ec] at h1; exact h1.elim
    | ok accF cF =>
      simp only [ec] at h1
      intro D hD
      have hs1 : SlOk K r1 o H1 (wipeD s vs) (wipe t vs) := (hs.mono s1).wipe vs
      refine ⟨fun i m H' => m = ds.length - i ∧ i ≤ ds.length ∧ ∃ r' c' acc us, Step r1 H1 r' H' ∧ Later r1 o H1 r' (D :: o) H' ∧ Cells K r' (D :: o) c' H' ∧ H' D = some (.lst us) ∧ IsL K r' (D :: o) H' acc us ∧
          compL tg p f (wipeD s vs) (ds.drop i) acc c' = .ok accF cF,
        ⟨ds.length, by simp, Nat.zero_le _, r1, c1, [], [], Step.new hD, (Sees.avoid hD).later, hc1.avoid hD, upd_same, .nil, by simpa using ec⟩, ?_⟩
      rintro i m H2 ⟨rfl, hi2, r2, c2, acc, us, st2, l2, hc2, hD2, ha2, e2⟩
      obtain ⟨hgo, hst⟩ := hJ r2 (D :: o) H2 c2 l2 hc2 i
      have nD : D ∉ r2 := fun z => hc2.out D z (by simp)
      by_cases hlt : i < ds.length
      · have ed : ds[i]? = some ds[i] := List.getElem?_eq_getElem hlt
        obtain ⟨go, yl⟩ := hgo _ ed
        rw [List.drop_eq_getElem_cons hlt] at e2
        refine .inr ⟨go, fun H' => ∃ r' c' acc us, Step r1 H1 r' H' ∧ Later r1 o H1 r' (D :: o) H' ∧ Cells K r' (D :: o) c' H' ∧ H' D = some (.lst us) ∧ IsL K r' (D :: o) H' acc us ∧
          compL tg p f (wipeD s vs) (ds.drop (i + 1)) acc c' = .ok accF cF, fun H' z => ⟨ds.length - (i + 1), by omega, rfl, hlt, z⟩, fun x H3 y => ?_⟩
        obtain ⟨k3, hx⟩ := yl x H3 y
        have st3 : Step r2 H2 r2 H3 := Step.grow k3
        have hc3 := hc2.grow k3
        have l3 := l2.trans (st3.later (o := D :: o))
        unfold compL at e2
        cases es : tg.set ds[i] (wipeD s vs) with
        | none => simp only [es] at e2; cases e2
        | some s' =>
          simp only [es] at e2
          refine Tg.run (vs := vs) (t0 := wipe t vs) ho hx (hs1.later l3) (wipe_wipe _ _) es fun t' ht' hw' => ⟨hw', ?_⟩
          cases ep : p s' c2 with
          | err x c3 => simp only [ep] at e2; cases e2
          | bad => simp only [ep] at e2; cases e2
          | ok b c3 =>
            refine hp r2 (D :: o) c2 s' H3 t' _ hc3 ht' ?_
            rw [ep]
            intro r4 H4 b' st4 hc4 hb
            cases hb
            have l4 := l3.trans (st4.later (o := D :: o))
            have hD4 : H4 D = some (.lst us) := st4.keep D _ (k3 D _ hD2) nD
            have nD4 : D ∉ r4 := fun z => hc4.out D z (by simp)
            have ha4 := (ha2.mono st3).mono st4
            cases b with
            | false =>
              simp only [ep] at e2
              exact ⟨r4, c3, acc, us, (st2.trans st3).trans st4, l4, hc4, hD4, ha4, e2⟩
            | true =>
              simp only [ep] at e2
              show te t' H4 _
              cases ef : f s' c3 with
              | err x c5 => simp only [ef] at e2; cases e2
              | bad => simp only [ef] at e2; cases e2
              | ok y c5 =>
                simp only [ef] at e2
                refine hf r4 (D :: o) c3 s' H4 t' _ hc4 (ht'.mono st4) ?_
                rw [ef]
                intro r5 H5 v st5 hc5 hv
                split at e2
                · rename_i hsz
                  refine ⟨us, st5.keep D _ hD4 nD4, Nat.lt_of_lt_of_le (by rw [← ha2.length]; exact hsz) (by decide : 100000 ≤ sizeLine), ?_⟩
                  have ha5 := ha4.mono st5
                  refine ⟨r5, c5, acc ++ [y], us ++ [v], (((st2.trans st3).trans st4).trans st5).put hD, (l4.trans (st5.later (o := D :: o))).trans Sees.turn.later, hc5.turn, upd_same, (ha5.app (.cons hv .nil)).sees Sees.turn, e2⟩
                · cases e2
      · have ei : i = ds.length := by omega
        subst ei
        rw [List.drop_length] at e2
        unfold compL at e2
        injection e2 with e3 e4
        subst e3; subst e4
        refine .inl ⟨hst (Nat.le_refl _), h1 r2 H2 (.ref D) st2 hc2.rest (.lst ⟨nD, hc1.freshO hD, hD2⟩ (ha2.sees Sees.rest))⟩)
theorem snd_yes : SndT K W tYes (fun _ c => .ok true c) := fun _ _ _ _ _ _ _ hc _ h => h.here hc rfl
end RL

set_option Elab.async false
set_option linter.all false
set_option maxRecDepth 100000
set_option maxHeartbeats 2000000
namespace RL
open PySem PySem.Spec PyProof.Rows L2
variable {K : PySem.W.Frag} {r r' r1 r2 o o' o1 : List Addr} {H H' H1 H2 : Hp} {c c' c1 c2 : Cs} {W : WX} {t : L2.St}
/-! ### the judgements: a piece of syntax and what it is worth -/
def RE (X : Cx) (W : WX) (e : Expr) (f : FE) : Prop := ∃ t, PE X e t ∧ SndE X.K W t f
def RT (X : Cx) (W : WX) (e : Expr) (f : FT) : Prop := ∃ t, PT X e t ∧ SndT X.K W t f
def RW (X : Cx) (W : WX) (e : Expr) (f : FT) : Prop := ∃ t, PW X e t ∧ SndT X.K W t f
def RA (X : Cx) (W : WX) (es : List Expr) (f : FA) : Prop := ∃ t, PA X es t ∧ SndA X.K W t f
def RS (X : Cx) (W : WX) (s : Stmt) (f : FS) : Prop := ∃ t, PS X s t ∧ SndS X.K W t f
def RSs (X : Cx) (W : WX) (s : List Stmt) (f : FS) : Prop := ∃ t, PSs X s t ∧ SndS X.K W t f
def RI (X : Cx) (W : WX) (tg e : Expr) (f : FA) : Prop := ∃ t, PI X tg e t ∧ SndJ X.K W t f
def RG (X : Cx) (W : WX) (e : Expr) (f : FG) : Prop := ∃ t, PG X e t ∧ SndG X.K W t f
section
variable {X : Cx} {e e1 e2 e3 : Expr} {es : List Expr} {f g h : FE} {fa : FA} {p q : FT} {pos : Pos} {st : Stmt} {sts : List Stmt} {fs gs : FS}
theorem re_var {i : Nat} {x : Str} (hN : X.N[i]? = some x) (hv : Vis X.env.scope x) (hd : (x == ("__debug__" : Str)) = false := by decide) (hcd : (x == ("__classdict__" : Str)) = false := by decide) : RE X W (.Name x pos) (eVar i) := ⟨_, pe_var hN hv hd hcd, snd_var⟩
theorem re_int {i : Int} {j} : RE X W (.Constant (.int i) j pos) (eC (.int i)) := ⟨_, pe_int, snd_int⟩
theorem re_str {x : Str} {j} : RE X W (.Constant (.str x) j pos) (eC (.str x)) := ⟨_, pe_str, snd_str⟩
theorem re_bl {b : Bool} {j} : RE X W (.Constant (.bool b) j pos) (eC (.bl b)) := ⟨_, pe_bl, snd_bl⟩
theorem re_non {j} : RE X W (.Constant .none j pos) (eC .non) := ⟨_, pe_non, snd_non⟩
/-- a constant of the module -/
def KonD (K : PySem.W.Frag) (mg : Str → Option Value) (x : Str) (d : D) : Prop := ∃ (v : V) (u : Value), mg x = some u ∧ RelV v u ∧ ∀ r o H, Is K r o H d v
theorem re_glob {x : Str} {d : D} (hg : Gl X x) (h : KonD X.K X.mg x d) (hd : (x == ("__debug__" : Str)) = false := by decide) : RE X W (.Name x pos) (eC d) := by
  obtain ⟨v, u, hm, rv, hi⟩ := h
  exact ⟨_, pe_glob hg hm rv hd, snd_k hi⟩
theorem ra_nil : RA X W [] aNil := ⟨_, pa_nil, snd_nil⟩
theorem ra_cons (he : RE X W e f) (hr : RA X W es fa) (hs : starEach (e :: es) X.env = (false, eval e X.env) :: starEach es X.env := by rfl) : RA X W (e :: es) (aCons f fa) := by
  obtain ⟨t, h1, h2⟩ := he
  obtain ⟨u, h3, h4⟩ := hr
  exact ⟨_, pa_cons h1 h3 hs, snd_cons h2 h4⟩
theorem re_tup {x1} (h : RA X W es fa) : RE X W (.Tuple es x1 pos) (eTup fa) := by
  obtain ⟨t, h1, h2⟩ := h
  exact ⟨_, pe_tup h1, snd_tup h2⟩
theorem re_lst (h : RA X W es fa) : RE X W (.List es pos) (eLst fa) := by
  obtain ⟨t, h1, h2⟩ := h
  exact ⟨_, pe_lst h1, snd_lst h2⟩
theorem re_new (h : RA X W es fa) : RE X W (.List es pos) (eNew fa) := by
  obtain ⟨t, h1, h2⟩ := h
  exact ⟨_, pe_lst h1, snd_new h2⟩
/-! operators -/
def RO (X : Cx) (W : WX) (w : Value → Value → Sem Value) (f : D → D → Cs → Res D) : Prop := ∃ q, OpR X w q ∧ SndO X.K W q f
theorem re_op {op : Operator} {fo : D → D → Cs → Res D} (ho : RO X W (binaryOp op) fo) (ha : RE X W e1 f) (hb : RE X W e2 g) : RE X W (.BinOp e1 op e2 pos) (eOp fo f g) := by
  obtain ⟨_, h1, h2⟩ := ho
  obtain ⟨_, h3, h4⟩ := ha
  obtain ⟨_, h5, h6⟩ := hb
  exact ⟨_, pe_op h1 h3 h5, snd_op h2 h4 h6⟩
theorem re_cmp {op : CmpOp} {fo : D → D → Cs → Res D} (ho : RO X W (compareOp op) fo) (ha : RE X W e1 f) (hb : RE X W e2 g) (hm : behindInMarks op e2 = false) : RE X W (.Compare e1 [op] [e2] pos) (eOp fo f g) := by
  obtain ⟨_, h1, h2⟩ := ho
  obtain ⟨_, h3, h4⟩ := ha
  obtain ⟨_, h5, h6⟩ := hb
  exact ⟨_, pe_cmpR h1 h3 h5 hm, snd_op h2 h4 h6⟩
theorem rt_cmp {op : CmpOp} {fo : D → D → Cs → Res D} (ho : RO X W (compareOp op) fo) (ha : RE X W e1 f) (hb : RE X W e2 g) (hm : behindInMarks op e2 = false) : RT X W (.Compare e1 [op] [e2] pos) (tsE (eOp fo f g)) := by
  obtain ⟨_, h1, h2⟩ := ho
  obtain ⟨_, h3, h4⟩ := ha
  obtain ⟨_, h5, h6⟩ := hb
  exact ⟨_, pt_cmpR h1 h3 h5 hm, snd_test (snd_op h2 h4 h6)⟩
/-- a < b < c -/
def eChain (fo fo' : D → D → Cs → Res D) (a b c : FE) : FE := fun s k => (a s k).bind fun d k1 => (b s k1).bind fun e k2 => (fo d e k2).bind fun z k3 => match z with
  | .bl true => (c s k3).bind fun d' k4 => fo' e d' k4
  | .bl false => .ok (.bl false) k3
  | _ => .bad
theorem snd_chain {q q' : R2} {fo fo' : D → D → Cs → Res D} {ta tb tc : TE} {a b c : FE} (ho : SndO K W q fo) (ho' : SndO K W q' fo') (ha : SndE K W ta a) (hb : SndE K W tb b) (hc : SndE K W tc c) : SndE K W (tChain q q' ta tb tc) (eChain fo fo' a b c) := fun r o k s H t Q hk hs h =>
  ha r o k s H t _ hk hs (ok_bind h fun d k1 r1 H1 v s1 hk1 hv h1 => hb r1 o k1 s H1 t _ hk1 (hs.mono s1) (ok_bind h1 fun e k2 r2 H2 w s2 hk2 hw h2 => ho r2 o k2 H2 t _ d e v w hk2 (hv.mono s2) hw (ok_bind h2 fun z k3 r3 H3 zv s3 hk3 hz h3 => by
    cases hz with
    | @bl b =>
      refine ⟨b, rfl, ?_⟩
      cases b with
      | true =>
        simp only [if_true]
        exact hc r3 o k3 s H3 t _ hk3 (((hs.mono s1).mono s2).mono s3) (ok_bind h3 fun d' k4 r4 H4 v' s4 hk4 hv' h4 => ho' r4 o k4 H4 t Q e d' w v' hk4 ((hw.mono s3).mono s4) hv' h4)
      | false =>
        simp only [Bool.false_eq_true, if_false]
        exact h3.here hk3 .bl
    | _ => exact h3.elim)))
theorem re_chain {op op' : CmpOp} {fo fo' : D → D → Cs → Res D} (ho : RO X W (compareOp op) fo) (ho' : RO X W (compareOp op') fo') (ha : RE X W e1 f) (hb : RE X W e2 g) (hc : RE X W e3 h) (hm : lastMarks [op, op'] [e2, e3] = false := by with_unfolding_all rfl) :
    RE X W (.Compare e1 [op, op'] [e2, e3] pos) (eChain fo fo' f g h) := by
  obtain ⟨_, h1, h2⟩ := ho
  obtain ⟨_, h1', h2'⟩ := ho'
  obtain ⟨_, h3, h4⟩ := ha
  obtain ⟨_, h5, h6⟩ := hb
  obtain ⟨_, h7, h8⟩ := hc
  exact ⟨_, pe_chain h1 h1' h3 h5 h7 hm, snd_chain h2 h2' h4 h6 h8⟩
theorem rt_chain {op op' : CmpOp} {fo fo' : D → D → Cs → Res D} (ho : RO X W (compareOp op) fo) (ho' : RO X W (compareOp op') fo') (ha : RE X W e1 f) (hb : RE X W e2 g) (hc : RE X W e3 h) (hm : lastMarks [op, op'] [e2, e3] = false := by with_unfolding_all rfl) :
    RT X W (.Compare e1 [op, op'] [e2, e3] pos) (tsE (eChain fo fo' f g h)) := by
  obtain ⟨_, h1, h2⟩ := ho
  obtain ⟨_, h1', h2'⟩ := ho'
  obtain ⟨_, h3, h4⟩ := ha
  obtain ⟨_, h5, h6⟩ := hb
  obtain ⟨_, h7, h8⟩ := hc
  exact ⟨_, pt_chain h1 h1' h3 h5 h7 hm, snd_test (snd_chain h2 h2' h4 h6 h8)⟩

/-! tests and bools -/
theorem rt_val (he : RE X W e f) (hh : ∀ whole, isTrue e X.env whole = (do let v ← whole; standAt e.pos; holding [v] (truthy v)) := by intro _; rfl) : RT X W e (tsE f) := by
  obtain ⟨_, h1, h2⟩ := he
  exact ⟨_, pt_val h1 hh, snd_testB h2⟩
theorem rt_not (he : RT X W e p) : RT X W (.UnaryOp .Not e pos) (tsNot p) := by
  obtain ⟨_, h1, h2⟩ := he
  exact ⟨_, pt_not h1, snd_not h2⟩
theorem rw_and1 (he : RT X W e p) : RW X W (.BoolOp .And [e] pos) p := by
  obtain ⟨_, h1, h2⟩ := he
  exact ⟨_, pw_and1 h1, h2⟩
theorem rw_or1 (he : RT X W e p) : RW X W (.BoolOp .Or [e] pos) p := by
  obtain ⟨_, h1, h2⟩ := he
  exact ⟨_, pw_or1 h1, h2⟩
theorem rw_and (he : RT X W e p) (hr : RW X W (.BoolOp .And (e1 :: es) pos) q) : RW X W (.BoolOp .And (e :: e1 :: es) pos) (tsAnd p q) := by
  obtain ⟨_, h1, h2⟩ := he
  obtain ⟨_, h3, h4⟩ := hr
  exact ⟨_, pw_and h1 h3, snd_and h2 h4⟩
theorem rw_or (he : RT X W e p) (hr : RW X W (.BoolOp .Or (e1 :: es) pos) q) : RW X W (.BoolOp .Or (e :: e1 :: es) pos) (tsOr p q) := by
  obtain ⟨_, h1, h2⟩ := he
  obtain ⟨_, h3, h4⟩ := hr
  exact ⟨_, pw_or h1 h3, snd_or h2 h4⟩
theorem rt_w (h : RW X W e p) : RT X W e p := by
  obtain ⟨_, h1, h2⟩ := h
  exact ⟨_, h1.pt, h2⟩
theorem re_one {op} (h : RE X W e f) : RE X W (.BoolOp op [e] pos) f := by
  obtain ⟨_, h1, h2⟩ := h
  exact ⟨_, pe_one h1, h2⟩
theorem re_and (ha : RE X W e f) (hb : RE X W (.BoolOp .And (e1 :: es) pos) g) : RE X W (.BoolOp .And (e :: e1 :: es) pos) (eAnd f g) := by
  obtain ⟨_, h1, h2⟩ := ha
  obtain ⟨_, h3, h4⟩ := hb
  exact ⟨_, pe_and h1 h3, snd_andV h2 h4⟩
theorem re_or (ha : RE X W e f) (hb : RE X W (.BoolOp .Or (e1 :: es) pos) g) : RE X W (.BoolOp .Or (e :: e1 :: es) pos) (eOr f g) := by
  obtain ⟨_, h1, h2⟩ := ha
  obtain ⟨_, h3, h4⟩ := hb
  exact ⟨_, pe_or h1 h3, snd_orV h2 h4⟩
theorem re_not (ha : RE X W e f) : RE X W (.UnaryOp .Not e pos) (eNot f) := by
  obtain ⟨_, h1, h2⟩ := ha
  exact ⟨_, pe_not h1, snd_notV h2⟩
theorem re_if (hp : RT X W e p) (ha : RE X W e1 f) (hb : RE X W e2 g) : RE X W (.IfExp e e1 e2 pos) (eIf p f g) := by
  obtain ⟨_, h1, h2⟩ := hp
  obtain ⟨_, h3, h4⟩ := ha
  obtain ⟨_, h5, h6⟩ := hb
  exact ⟨_, pe_ifExp h1 h3 h5, snd_ifE h2 h4 h6⟩
/-! statements -/
theorem rss_nil : RSs X W [] sNext := ⟨_, pss_nil, snd_next⟩
theorem rss_cons (h1 : RS X W st fs) (h2 : RSs X W sts gs) : RSs X W (st :: sts) (sSeq fs gs) := by
  obtain ⟨_, a1, a2⟩ := h1
  obtain ⟨_, a3, a4⟩ := h2
  exact ⟨_, pss_cons a1 a3, snd_seq a2 a4⟩
theorem rss_one (h : RS X W st fs) : RSs X W [st] fs := by
  obtain ⟨_, h1, h2⟩ := h
  exact ⟨_, pss_one h1, h2⟩
theorem rs_ret (h : RE X W e f) : RS X W (.Return (some e) pos) (sRet f) := by
  obtain ⟨_, h1, h2⟩ := h
  exact ⟨_, ps_ret h1, snd_ret h2⟩
theorem rs_retN : RS X W (.Return none pos) sRetN := ⟨_, ps_retN, snd_retN⟩
theorem rs_pass : RS X W (.Pass pos) sNext := ⟨_, ps_pass, snd_next⟩
theorem rs_break : RS X W (.Break pos) sBreak := ⟨_, ps_break, snd_break⟩
theorem rs_cont : RS X W (.Continue pos) sCont := ⟨_, ps_continue, snd_cont⟩
theorem rs_doc {x j pos'} : RS X W (.Expr (.Constant (.str x) j pos) pos') sNext := ⟨_, ps_doc, snd_next⟩
theorem rs_drop (h : RE X W e f) (hs : swapsWith e none pos.line X.env = pure false := by rfl) : RS X W (.Expr e pos) (sDrop f) := by
  obtain ⟨_, h1, h2⟩ := h
  exact ⟨_, ps_expr h1 hs, snd_drop h2⟩
theorem rs_if {a b : List Stmt} (hp : RT X W e p) (ha : RSs X W a fs) (hb : RSs X W b gs) : RS X W (.If e a b pos) (sIf p fs gs) := by
  obtain ⟨_, h1, h2⟩ := hp
  obtain ⟨_, h3, h4⟩ := ha
  obtain ⟨_, h5, h6⟩ := hb
  exact ⟨_, ps_if h1 h3 h5, snd_if h2 h4 h6⟩
theorem rs_while {b : List Stmt} {n : Nat} (hx : PassesOwn (model X.prog X.w) X.A X.env X.xe) (hp : RT X W e p) (hb : RSs X W b fs) : RS X W (.While e b [] pos) (loopW p fs n) := by
  obtain ⟨_, h1, h2⟩ := hp
  obtain ⟨_, h3, h4⟩ := hb
  exact ⟨_, ps_while hx h1 h3, snd_while h2 h4⟩
def sFor (f : FA) (g : FG) (b : FS) : FS := fun s c => (f s c).toS s fun ds c1 => loopL g b ds s c1
theorem rs_for {tg : Expr} {b : List Stmt} {fg : FG} (hx : PassesOwn (model X.prog X.w) X.A X.env X.xe) (hc : X.calm = true) (hi : RI X W tg e fa) (hg : RG X W tg fg) (hb : RSs X W b fs) (hs : ∀ x, foldedSetIterable e X.env x = pure x := by intro _; rfl) :
    RS X W (.For tg e b [] pos) (sFor fa fg fs) := by
  obtain ⟨_, h1, h2⟩ := hi
  obtain ⟨_, h3, h4⟩ := hg
  obtain ⟨_, h5, h6⟩ := hb
  exact ⟨_, ps_for hx hc h1 h3 h5 hs, snd_for h2 h4 h6⟩
theorem rs_set {i : Nat} {x : Str} {pos' : Pos} (hN : X.N.Nodup) (hi : X.N[i]? = some x) (hx : Loc X.env.scope x) (he : RE X W e f) (hs : swapsWith e (some (.Name x pos')) pos.line X.env = pure false := by rfl) (hf : X.fn x = true ∨ X.env.scope.names.lookup x = some .local := by first | exact .inl rfl | exact .inr rfl | assumption) :
    RS X W (.Assign [.Name x pos'] e pos) (sAsg f (gtName i)) := by
  obtain ⟨_, h1, h2⟩ := he
  exact ⟨_, ps_set hN hi hx h1 hs hf, snd_asg h2 snd_gname⟩
theorem rs_par {i j : Nat} {x y : Str} {a b : Expr} {px py pt : Pos} {kt k2 pt2} (hc : X.calm = true) (hN : X.N.Nodup) (hi : X.N[i]? = some x) (hj : X.N[j]? = some y) (hij : i ≠ j)
    (hx : X.env.scope.names.lookup x = some .local) (hy : X.env.scope.names.lookup y = some .local) (ha : RA X W [a, b] fa)
    (hw : swappedStores [.Tuple [.Name x px, .Name y py] kt pt] (.Tuple [a, b] k2 pt2) X.env = pure (some [x, y]))
    (hs : swapsWithSole [.Tuple [.Name x px, .Name y py] kt pt] (.Tuple [a, b] k2 pt2) pos.line X.env = pure false := by rfl) :
    RS X W (.Assign [.Tuple [.Name x px, .Name y py] kt pt] (.Tuple [a, b] k2 pt2) pos) (sPar i j fa) := by
  obtain ⟨_, h1, h2⟩ := ha
  exact ⟨_, ps_par hc hN hi hj hij hx hy h1 hw hs, snd_par h2⟩
theorem rg_name {i : Nat} {x : Str} (hN : X.N.Nodup) (hi : X.N[i]? = some x) (hx : Loc X.env.scope x) (hf : X.fn x = true ∨ X.env.scope.names.lookup x = some .local := by first | exact .inl rfl | exact .inr rfl | assumption) : RG X W (.Name x pos) (gtName i) :=
  ⟨_, pg_name hN hi hx hf, snd_gname⟩
theorem rg_tup {k : Nat} {is : List Nat} (hc : X.calm = true) (h : PGs X es (gNames is)) (hn : (assignEach es X.env).length = is.length := by rfl) (hst : (assignEach es X.env).findIdx? (·.1) = none := by rfl) : RG X W (.Tuple es k pos) (gtTup is) :=
  ⟨_, pg_tup hc h hn hst, snd_gtup⟩
theorem rs_asg {tg : Expr} {fg : FG} (he : RE X W e f) (hg : RG X W tg fg) (hs : swapsWithSole [tg] e pos.line X.env = pure false := by rfl) (hw : swappedStores [tg] e X.env = pure none := by rfl) (h1 : (assignEach [tg] X.env).map (·.2) = [assign tg X.env] := by rfl) :
    RS X W (.Assign [tg] e pos) (sAsg f fg) := by
  obtain ⟨_, h2, h3⟩ := he
  obtain ⟨_, h4, h5⟩ := hg
  exact ⟨_, ps_asg h2 h4 hs hw h1, snd_asg h3 h5⟩
/-! what is walked -/
theorem ri_seq {tg : Expr} (h : RE X W e f) : RI X W tg e (fSeq f) := by
  obtain ⟨_, h1, h2⟩ := h
  exact ⟨_, pi_seq h1, snd_iseq h2⟩
theorem ri_rng1 {tg : Expr} {p2 : Pos} (hg : Gl X "range") (hm : X.mg "range" = none) (ha : RA X W [e] fa) (hs : starEach [e] X.env = [(false, eval e X.env)] := by rfl) : RI X W tg (.Call (.Name "range" p2) [e] [] pos) (fRng1 fa) := by
  obtain ⟨_, h1, h2⟩ := ha
  exact ⟨_, pi_range1 hg hm h1 hs, snd_rng1 h2⟩
theorem ri_rng2 {tg : Expr} {p2 : Pos} (hg : Gl X "range") (hm : X.mg "range" = none) (ha : RA X W [e, e1] fa) (hs : starEach [e, e1] X.env = [(false, eval e X.env), (false, eval e1 X.env)] := by rfl) (hs2 : starEach [e1] X.env = [(false, eval e1 X.env)] := by rfl) :
    RI X W tg (.Call (.Name "range" p2) [e, e1] [] pos) (fRng2 fa) := by
  obtain ⟨_, h1, h2⟩ := ha
  exact ⟨_, pi_range2 hg hm h1 hs hs2, snd_rng2 h2⟩
theorem ri_rng3 {tg : Expr} {p2 : Pos} (hg : Gl X "range") (hm : X.mg "range" = none) (ha : RA X W [e, e1, e2] fa) (hs : starEach [e, e1, e2] X.env = (false, eval e X.env) :: starEach [e1, e2] X.env := by rfl) (hpl : (backTo pos (starEach [e1, e2] X.env)).any (·.1) = false := by rfl) :
    RI X W tg (.Call (.Name "range" p2) [e, e1, e2] [] pos) (fRng3 fa) := by
  obtain ⟨_, h1, h2⟩ := ha
  exact ⟨_, pi_range3 hg hm h1 hs hpl, snd_rng3 h2⟩
end
/-- a block of a comprehension -/
abbrev Blk (X : Cx) (scope : Scope) (Y : Cx) : Prop := ∃ (s : Shared) (H : Hp) (C : Addr) (cl : List (Str × Addr)) (fp : List Addr), Y = X.blk s H scope (compEnvC scope cl C X.env) fp
section
variable {X : Cx} {e : Expr} {fa : FA} {pos : Pos}
/-- the reading that a function gives -/
def tOfE (K : PySem.W.Frag) (W : WX) (f : FE) : TE := fun t H Q => ∃ r o c s, Cells K r o c H ∧ SlOk K r o H s t ∧ OkG K W (Is K) r o H t Q (f s c)
def tOfT (K : PySem.W.Frag) (W : WX) (f : FT) : TT := fun t H Q => ∃ r o c s, Cells K r o c H ∧ SlOk K r o H s t ∧ OkG K W RB r o H t Q (f s c)
theorem RE.canon {f : FE} (h : RE X W e f) : PE X e (tOfE X.K W f) := by
  obtain ⟨t, h1, h2⟩ := h
  exact ⟨fun pins s σ H Q I ⟨r, o, c, sl, hc, hs, q⟩ => h1.run pins s σ H Q I (h2 r o c sl H σ Q hc hs q)⟩
theorem RT.canon {f : FT} (h : RT X W e f) : PT X e (tOfT X.K W f) := by
  obtain ⟨t, h1, h2⟩ := h
  exact ⟨fun pins s σ H Q I ⟨r, o, c, sl, hc, hs, q⟩ => h1.run pins s σ H Q I (h2 r o c sl H σ Q hc hs q)⟩
theorem snd_ofE {f : FE} : SndE K W (tOfE K W f) f := fun r o c s H t Q hc hs h => ⟨r, o, c, s, hc, hs, h⟩
theorem snd_ofT {f : FT} : SndT K W (tOfT K W f) f := fun r o c s H t Q hc hs h => ⟨r, o, c, s, hc, hs, h⟩
/-- [elt for x in ..] -/
theorem re_lc {elt iter : Expr} {tge : Expr} {scope : Scope} {own : List (Str × Nat)} {tg : Tg} {f : FE} (hc : X.calm = true) (hN : X.N.Nodup) (hi : RI X W tge iter fa) (ok : blkC X.N X.env.scope scope own = true) (ho : tg.own (own.map (·.2)) = true)
    (hg : ∀ (s : Shared) (H : Hp) (C : Addr) (cl : List (Str × Addr)) (fp : List Addr), PG (X.blk s H scope (compEnvC scope cl C X.env) fp) tge (tg.g X.K))
    (he : ∀ (s : Shared) (H : Hp) (C : Addr) (cl : List (Str × Addr)) (fp : List Addr), RE (X.blk s H scope (compEnvC scope cl C X.env) fp) W0 elt f)
    (hs : ∀ x, foldedSetIterable iter X.env x = pure x := by intro _; rfl) : RE X W (.ListComp elt [⟨tge, iter, [], 0⟩] scope pos) (eComp fa tg (fun _ c => .ok true c) f (own.map (·.2))) := by
  obtain ⟨_, h1, h2⟩ := hi
  exact ⟨_, pe_lc hc hN h1 (blkOk_by ok) hg (fun _ _ _ _ _ => pts_nil) (fun s H C cl fp => (he s H C cl fp).canon) hs, snd_lc ho h2 snd_yes snd_ofE⟩
/-- [elt for x in .. if ..] -/
theorem re_lcIf {elt iter : Expr} {tge cnd : Expr} {scope : Scope} {own : List (Str × Nat)} {tg : Tg} {f : FE} {p : FT} (hc : X.calm = true) (hN : X.N.Nodup) (hi : RI X W tge iter fa) (ok : blkC X.N X.env.scope scope own = true) (ho : tg.own (own.map (·.2)) = true)
    (hg : ∀ (s : Shared) (H : Hp) (C : Addr) (cl : List (Str × Addr)) (fp : List Addr), PG (X.blk s H scope (compEnvC scope cl C X.env) fp) tge (tg.g X.K))
    (ht : ∀ (s : Shared) (H : Hp) (C : Addr) (cl : List (Str × Addr)) (fp : List Addr), RT (X.blk s H scope (compEnvC scope cl C X.env) fp) W0 cnd p)
    (he : ∀ (s : Shared) (H : Hp) (C : Addr) (cl : List (Str × Addr)) (fp : List Addr), RE (X.blk s H scope (compEnvC scope cl C X.env) fp) W0 elt f)
    (hs : ∀ x, foldedSetIterable iter X.env x = pure x := by intro _; rfl) : RE X W (.ListComp elt [⟨tge, iter, [cnd], 0⟩] scope pos) (eComp fa tg p f (own.map (·.2))) := by
  obtain ⟨_, h1, h2⟩ := hi
  exact ⟨_, pe_lc hc hN h1 (blkOk_by ok) hg (fun s H C cl fp => pts_one (ht s H C cl fp).canon) (fun s H C cl fp => (he s H C cl fp).canon) hs, snd_lc ho h2 snd_ofT snd_ofE⟩
theorem rs_setLc {i : Nat} {y : Str} {py : Pos} {spos : Pos} {elt iter : Expr} {tge : Expr} {scope : Scope} {own : List (Str × Nat)} {tg : Tg} {f : FE} (hc : X.calm = true) (hN : X.N.Nodup) (hy : X.N[i]? = some y) (hyl : X.env.scope.names.lookup y = some .local)
    (hsw : swapsWith (.ListComp elt [⟨tge, iter, [], 0⟩] scope pos) (some (.Name y py)) spos.line X.env = pure true) (hi : RI X W tge iter fa) (ok : blkC X.N X.env.scope scope own = true) (ho : tg.own (own.map (·.2)) = true)
    (hg : ∀ (s : Shared) (H : Hp) (C : Addr) (cl : List (Str × Addr)) (fp : List Addr), PG (X.blk s H scope (compEnvC scope cl C X.env) fp) tge (tg.g X.K))
    (he : ∀ (s : Shared) (H : Hp) (C : Addr) (cl : List (Str × Addr)) (fp : List Addr), RE (X.blk s H scope (compEnvC scope cl C X.env) fp) W0 elt f)
    (hs : ∀ x, foldedSetIterable iter X.env x = pure x := by intro _; rfl) : RS X W (.Assign [.Name y py] (.ListComp elt [⟨tge, iter, [], 0⟩] scope pos) spos) (sAsg (eComp fa tg (fun _ c => .ok true c) f (own.map (·.2))) (gtName i)) := by
  obtain ⟨_, h1, h2⟩ := hi
  exact ⟨_, ps_setLc hc hN hy hyl hsw h1 (blkOk_by ok) hg (fun _ _ _ _ _ => pts_nil) (fun s H C cl fp => (he s H C cl fp).canon) hs, snd_asg (snd_lc ho h2 snd_yes snd_ofE) snd_gname⟩
theorem rs_setLcIf {i : Nat} {y : Str} {py : Pos} {spos : Pos} {elt iter : Expr} {tge cnd : Expr} {scope : Scope} {own : List (Str × Nat)} {tg : Tg} {f : FE} {p : FT} (hc : X.calm = true) (hN : X.N.Nodup) (hy : X.N[i]? = some y) (hyl : X.env.scope.names.lookup y = some .local)
    (hsw : swapsWith (.ListComp elt [⟨tge, iter, [cnd], 0⟩] scope pos) (some (.Name y py)) spos.line X.env = pure true) (hi : RI X W tge iter fa) (ok : blkC X.N X.env.scope scope own = true) (ho : tg.own (own.map (·.2)) = true)
    (hg : ∀ (s : Shared) (H : Hp) (C : Addr) (cl : List (Str × Addr)) (fp : List Addr), PG (X.blk s H scope (compEnvC scope cl C X.env) fp) tge (tg.g X.K))
    (ht : ∀ (s : Shared) (H : Hp) (C : Addr) (cl : List (Str × Addr)) (fp : List Addr), RT (X.blk s H scope (compEnvC scope cl C X.env) fp) W0 cnd p)
    (he : ∀ (s : Shared) (H : Hp) (C : Addr) (cl : List (Str × Addr)) (fp : List Addr), RE (X.blk s H scope (compEnvC scope cl C X.env) fp) W0 elt f)
    (hs : ∀ x, foldedSetIterable iter X.env x = pure x := by intro _; rfl) : RS X W (.Assign [.Name y py] (.ListComp elt [⟨tge, iter, [cnd], 0⟩] scope pos) spos) (sAsg (eComp fa tg p f (own.map (·.2))) (gtName i)) := by
  obtain ⟨_, h1, h2⟩ := hi
  exact ⟨_, ps_setLc hc hN hy hyl hsw h1 (blkOk_by ok) hg (fun s H C cl fp => pts_one (ht s H C cl fp).canon) (fun s H C cl fp => (he s H C cl fp).canon) hs, snd_asg (snd_lc ho h2 snd_ofT snd_ofE) snd_gname⟩
end

/-! ### what a def promises; calls -/
abbrev FN := List D → Cs → Res D
/-- the wish of a def's callers -/
abbrev WF (E : XK) : WX := fun cls d _ H => E cls d H
def spR (K : PySem.W.Frag) (F : FN) : Sp := fun vs H Q E => ∃ r o c ds, Cells K r o c H ∧ IsL K r o H ds vs ∧ OkG K (WF E) (Is K) r o H [] Q (F ds c)
def eCall (F : FN) (f : FA) : FE := fun s c => (f s c).bind fun ds c1 => F ds c1
theorem snd_call {ta : TA} {f : FA} {F : FN} (hf : SndA K W ta f) : SndE K W (tCallS (spR K F) (WE W) ta) (eCall F f) := fun r o c s H t Q hc hs h =>
  hf r o c s H t _ hc hs (ok_bind h fun ds c1 r1 H1 vs s1 hc1 hv h1 => ⟨r1, o, c1, ds, hc1, hv, by
    cases e : F ds c1 with
    | ok d c2 => rw [e] at h1; exact h1
    | err x c2 => rw [e] at h1; exact h1
    | bad => rw [e] at h1; exact h1⟩)
/-- arguments in order, then the body; the end without truncation -/
def fin : SR → Res D
  | .nx _ c => .ok .non c
  | .rt d c => .ok d c
  | .err x _ c => .err x c
  | _ => .bad
def startD (n m : Nat) (ds : List D) : Sl := ds.map some ++ List.replicate (m - n) none
/-- n parameters, m names -/
def mkF (n m : Nat) (b : FS) : FN := fun ds c => if ds.length = n then fin (b (startD n m ds) c) else .bad
theorem SlOk.start {ds : List D} {vs : List V} {N : List Str} (h : IsL K r o H ds vs) (hn : N.length = m) (hd : ds.length = n) : SlOk K r o H (startD n m ds) (start N vs) := by
  unfold startD L2.start
  refine ⟨by simp only [List.length_append, List.length_map, List.length_replicate, hn, ← h.length, hd], fun i d e => ?_⟩
  by_cases hi : i < ds.length
  · rw [List.getElem?_append_left (by simpa using hi), List.getElem?_map] at e
    cases e2 : ds[i]? with
    | none => rw [e2] at e; cases e
    | some d' =>
      rw [e2] at e
      cases e
      obtain ⟨v, h1, h2⟩ := h.get e2
      exact ⟨v, by rw [List.getElem?_append_left (by rw [List.length_map, ← h.length]; exact hi), List.getElem?_map, h1]; rfl, h2⟩
  · rw [List.getElem?_append_right (by simpa using hi), List.getElem?_replicate] at e
    split at e <;> cases e
section
variable {P : Program} {w : World} {mg : Str → Option Value} {base : Heap}
theorem fn_mk {x qual : Str} {st : Stmt} {f : Addr} {fd : FuncData} {N ps : List Str} {n m k : Nat} {b : FS} (F : Fun K x qual st f fd) (S : FnScope N ps (defScope st)) (hn : ps.length = n) (hm : N.length = m)
    (hb : ∀ (cdv : Value) (A : Around) (outer : List Env) (s : Shared) (H : Hp) (E : XK), Room k (A.deeper (envOfC qual (defScope st) s.heap.objs.size f cdv)) → RSs (cxOf (L2.CX P w) P w K mg base N qual (defScope st) f cdv A outer s H E) (WF E) (defBody st) b) :
    FnOk P w K mg base (L2.CX P w) (k + 1) f fd ps (spR K (mkF n m b)) := by
  refine F.okX S (fun vs H Q E h => ?_) (fun cdv A outer s H vs Q E hr h => ?_)
  · obtain ⟨r, o, c, ds, hc, hv, q⟩ := h
    unfold mkF at q
    by_cases e : ds.length = n
    · rw [← hv.length, e, hn]
    · rw [if_neg e] at q; exact q.elim
  · obtain ⟨r, o, c, ds, hc, hv, q⟩ := h
    obtain ⟨t, h1, h2⟩ := hb cdv A outer s H E hr
    refine ⟨t, h1, ?_⟩
    unfold mkF at q
    by_cases e : ds.length = n
    · rw [if_pos e] at q
      refine h2 r o c (startD n m ds) H (start N vs) _ hc (SlOk.start hv hm e) ?_
      cases e2 : b (startD n m ds) c with
      | nx s' c' => rw [e2] at q; exact fun r' H' t' st hc' hs' => q r' H' .non st hc' .non
      | rt d c' => rw [e2] at q; exact fun r' H' v st hc' hv' => q r' H' v st hc' hv'
      | err x s' c' => rw [e2] at q; exact fun r' H' t' cls dx st hc' hs' hx => q r' H' cls dx st hc' hx
      | bk s' c' => rw [e2] at q; exact q.elim
      | ct s' c' => rw [e2] at q; exact q.elim
      | bad => rw [e2] at q; exact q.elim
    · rw [if_neg e] at q; exact q.elim
end
/-- a def of the module that is ready to be called -/
structure Ready (P : Program) (w : World) (K : PySem.W.Frag) (mg : Str → Option Value) (base : Heap) (k : Nat) (x : Str) (F : FN) : Prop where
  ex : ∃ (f : Addr) (fd : FuncData) (ps : List Str), FnOk P w K mg base (L2.CX P w) k f fd ps (spR K F) ∧ mg x = some (.ref f) ∧ PySem.W.keepIn K (.ref f) = true ∧ Binds K fd ps []
section
variable {X : Cx} {e : Expr} {es : List Expr} {fa : FA} {pos p : Pos}
theorem re_call {k j : Nat} {x : Str} {F : FN} (c : Ready X.prog X.w X.K X.mg X.base k x F) (tk : Takes X W) (hr : Room j X.A) (hk : k ≤ j) (hg : Gl X x) (ha : RA X W (e :: es) fa) (hdb : (x == ("__debug__" : Str)) = false := by decide)
    (he : starEach (e :: es) X.env = (false, eval e X.env) :: starEach es X.env := by rfl) (hpl : (backTo pos (starEach es X.env)).any (·.1) = false := by rfl) : RE X W (.Call (.Name x p) (e :: es) [] pos) (eCall F fa) := by
  obtain ⟨f, fd, ps, h1, h2, h3, h4⟩ := c.ex
  obtain ⟨ta, h5, h6⟩ := ha
  exact ⟨_, pe_callS h1 (hr.mono hk) hg h2 h3 h4 (fun σ => passAt tk σ) h5 hdb he hpl, snd_call h6⟩
end
end RL

set_option Elab.async false
set_option linter.all false
set_option maxRecDepth 100000
set_option maxHeartbeats 2000000
namespace RL
open PySem PySem.Spec PyProof.Rows L2
variable {K : PySem.W.Frag} {r r' r1 r2 o o' o1 : List Addr} {H H' H1 H2 : Hp} {c c' c1 c2 : Cs} {W : WX} {t : L2.St}
/-- the list at a value: it stands as a list of its own, or is a cell -/
def listOf (c : Cs) : D → Option (List D)
  | .lst l => some l
  | .cel n => (match c[n]? with | some (.lst l) => some l | _ => none)
  | _ => none
theorem listOf_at (hc : Cells K r o c H) {d : D} {v : V} {l : List D} (hv : Is K r o H d v) (e : listOf c d = some l) : ∃ a us, v = .ref a ∧ H a = some (.lst us) ∧ IsL K r o H l us := by
  cases hv with
  | lst a b => cases e; exact ⟨_, _, rfl, a.2.2, b⟩
  | @cel n a hn =>
    unfold listOf at e
    cases e2 : c[n]? with
    | none => simp only [e2] at e; cases e
    | some x =>
      simp only [e2] at e
      cases x with
      | lst l' =>
        cases e
        obtain ⟨us, q1, q2⟩ := hc.ok n a _ hn e2
        exact ⟨a, us, rfl, q1, q2⟩
      | ins C fs => cases e
      | tab _ _ => cases e
  | _ => cases e
/-! ### + -/
def oAdd : D → D → Cs → Res D := fun d e c => match d, e with
  | .int i, .int j => .ok (.int (i + j)) c
  | .str x, .str y => if x.length + y.length ≤ 100000 then .ok (.str (x ++ y)) c else .bad
  | .tup x, .tup y => if x.length + y.length ≤ 100000 then .ok (.tup (x ++ y)) c else .bad
  | d, e => match listOf c d, listOf c e with
    | some x, some y => if x.length + y.length ≤ 100000 then .ok (.lst (x ++ y)) c else .bad
    | _, _ => .bad
theorem Is.eqTup {l : List D} {a b : Addr} {us : List V} (ha : TupAt K r o H a us) (hl : IsL K r o H l us) : Is K r o H (.tup l) (.ref a) := .tup ha hl
theorem ro_add {X : Cx} : RO X W (binaryOp .Add) oAdd := by
  refine ⟨_, ((op_add.or op_add_str).or op_catA).or op_cat, fun r o c H t Q d e x y hc hd he h => ?_⟩
  have lists : ∀ {l m : List D}, listOf c d = some l → listOf c e = some m → OkG X.K W (Is X.K) r o H t Q (if l.length + m.length ≤ 100000 then .ok (.lst (l ++ m)) c else .bad) → rCat x y H Q := fun {l m} e1 e2 h => by
    obtain ⟨a, us, rfl, ha, hl⟩ := listOf_at hc hd e1
    obtain ⟨b, ws, rfl, hb, hm⟩ := listOf_at hc he e2
    split at h
    · rename_i z
      exact ⟨a, b, us, ws, rfl, rfl, ha, hb, by rw [← hl.length, ← hm.length]; exact big_le z, fun p hp => h _ _ _ (Step.new hp) (hc.new hp) (Is.newLst hc hp (hl.app hm))⟩
    · exact h.elim
  unfold oAdd at h
  split at h
  · exact .inl (.inl (.inl ⟨_, _, hd.int_inv, he.int_inv, h.here hc .int⟩))
  · split at h
    · rename_i z
      exact .inl (.inl (.inr ⟨_, _, hd.str_inv, he.str_inv, big_le z, h.here hc .str⟩))
    · exact h.elim
  · rename_i l m
    obtain ⟨a, us, rfl, ha, hl⟩ := hd.tup_inv
    obtain ⟨b, ws, rfl, hb, hm⟩ := he.tup_inv
    split at h
    · rename_i z
      refine .inl (.inr ⟨a, b, us, ws, rfl, rfl, ha.sq, hb.sq, by rw [← hl.length, ← hm.length]; exact big_le z, fun e1 => ?_, fun e1 e2 => ?_, fun e1 e2 p hp => ?_⟩)
      · subst e1
        cases hl
        exact h.here hc (.tup hb hm)
      · subst e2
        cases hm
        rw [List.append_nil] at h
        exact h.here hc (.tup ha hl)
      · exact h _ _ _ (Step.new hp) (hc.new hp) (Is.newTup hc hp (hl.app hm))
    · exact h.elim
  · split at h
    · rename_i l m e1 e2
      exact .inr (lists e1 e2 h)
    · exact h.elim
/-! ### other arithmetic -/
def oSub : D → D → Cs → Res D := oI (fun _ _ => true) fun i j => .int (i - j)
def oMul : D → D → Cs → Res D := oI (fun i j => decide (-(2 ^ 64) < i ∧ i < 2 ^ 64) || decide (-(2 ^ 64) < j ∧ j < 2 ^ 64)) fun i j => .int (i * j)
def oDiv : D → D → Cs → Res D := oI (fun _ j => decide (0 < j ∧ j < 1073741824)) fun i j => .int (i / j)
def oMod : D → D → Cs → Res D := oI (fun _ j => decide (0 < j)) fun i j => .int (i % j)
def oPow : D → D → Cs → Res D := oI (fun i j => decide (0 ≤ j ∧ j ≤ 1000000 ∧ i.natAbs < 2 ^ 64)) fun i j => .int (i ^ j.toNat)
def oShr : D → D → Cs → Res D := oI (fun _ j => decide (0 ≤ j)) fun i j => .int (i / 2 ^ j.toNat)
def oAnd : D → D → Cs → Res D := oI (fun _ _ => true) fun i j => .int (Builtin.bitAnd i j)
theorem ro_sub {X : Cx} : RO X W (binaryOp .Sub) oSub := ⟨_, op_sub, snd_oI0 fun _ _ _ _ _ => .int⟩
theorem ro_div {X : Cx} : RO X W (binaryOp .FloorDiv) oDiv := ⟨_, op_fdiv, snd_oI (fun i j h => (of_decide_eq_true h : 0 < j ∧ j < 1073741824)) fun _ _ _ _ _ => .int⟩
theorem ro_mod {X : Cx} : RO X W (binaryOp .Mod) oMod := ⟨_, op_mod, snd_oI (fun i j h => of_decide_eq_true h) fun _ _ _ _ _ => .int⟩
theorem ro_pow {X : Cx} : RO X W (binaryOp .Pow) oPow := ⟨_, op_pow, snd_oI (fun i j h => (of_decide_eq_true h : 0 ≤ j ∧ j ≤ 1000000 ∧ i.natAbs < 2 ^ 64)) fun _ _ _ _ _ => .int⟩
theorem ro_shr {X : Cx} : RO X W (binaryOp .RShift) oShr := ⟨_, op_shr, snd_oI (fun i j h => of_decide_eq_true h) fun _ _ _ _ _ => .int⟩
theorem ro_and {X : Cx} : RO X W (binaryOp .BitAnd) oAnd := ⟨_, op_and, snd_oI0 fun _ _ _ _ _ => .int⟩
theorem ro_mul {X : Cx} : RO X W (binaryOp .Mult) oMul := ⟨_, op_mul, snd_oI (fun i j h => by
  simp only [Bool.or_eq_true, decide_eq_true_eq] at h
  exact h) fun _ _ _ _ _ => .int⟩
/-- a tuple times an int -/
def oMulT : D → D → Cs → Res D := fun d e c => match d, e with
  | .tup l, .int k => if l ≠ [] ∧ 2 ≤ k ∧ k ≤ 1000 ∧ l.length ≤ 1000 then .ok (.tup (List.replicate k.toNat l).flatten) c else .bad
  | _, _ => .bad
theorem IsL.rep {l : List D} {us : List V} (h : IsL K r o H l us) : ∀ n : Nat, IsL K r o H (List.replicate n l).flatten (List.replicate n us).flatten
  | 0 => .nil
  | n + 1 => by
    rw [List.replicate_succ, List.replicate_succ, List.flatten_cons, List.flatten_cons]
    exact h.app (h.rep n)
theorem ro_mulT {X : Cx} : RO X W (binaryOp .Mult) oMulT := by
  refine ⟨_, op_repT, fun r o c H t Q d e x y hc hd he h => ?_⟩
  unfold oMulT at h
  split at h
  · rename_i l k
    split at h
    · rename_i z
      obtain ⟨a, us, rfl, ha, hl⟩ := hd.tup_inv
      refine ⟨a, k, us, rfl, he.int_inv, ha.sq, fun e => z.1 (by subst e; cases hl; rfl), z.2.1, z.2.2.1, by rw [← hl.length]; exact z.2.2.2, fun p hp => h _ _ _ (Step.new hp) (hc.new hp) (Is.newTup hc hp (hl.rep _))⟩
    · exact h.elim
  · exact h.elim
/-! ### comparisons of ints and texts -/
def intsOf : List D → Option (List Int)
  | [] => some []
  | .int i :: r => (intsOf r).map (i :: ·)
  | _ :: _ => none
theorem intsOf_at : ∀ {ds : List D} {vs : List V} {ns : List Int}, IsL K r o H ds vs → intsOf ds = some ns → vs = ns.map V.int
  | [], _, _, .nil, e => by cases e; rfl
  | d :: ds, _, ys, .cons a b, e => by
    cases d with
    | int x =>
      unfold intsOf at e
      cases e2 : intsOf ds with
      | none => rw [e2] at e; cases e
      | some zs =>
        rw [e2] at e
        cases e
        rw [a.int_inv, intsOf_at b e2]
        rfl
    | _ => cases e
def oLt : D → D → Cs → Res D := fun d e c => match d, e with
  | .int i, .int j => .ok (.bl (decide (i < j))) c
  | .tup x, .tup y => (match intsOf x, intsOf y with | some ns, some ms => .ok (.bl (HT.lexLt ns ms)) c | _, _ => .bad)
  | .str x, .str y => .ok (.bl (decide (x.cps.toList < y.cps.toList))) c
  | _, _ => .bad
def oLe : D → D → Cs → Res D := fun d e c => match d, e with
  | .int i, .int j => .ok (.bl (decide (i ≤ j))) c
  | .str x, .str y => .ok (.bl (!decide (y.cps.toList < x.cps.toList))) c
  | _, _ => .bad
def oGt : D → D → Cs → Res D := fun d e c => match d, e with
  | .int i, .int j => .ok (.bl (decide (i > j))) c
  | _, _ => .bad
def oGe : D → D → Cs → Res D := fun d e c => match d, e with
  | .int i, .int j => .ok (.bl (decide (i ≥ j))) c
  | _, _ => .bad
theorem ro_lt {X : Cx} {k : Nat} (hr : Room k X.A) : RO X W (compareOp .Lt) oLt := by
  refine ⟨_, (op_lt.or op_lt_str).or (op_ltT hr.units0), fun r o c H t Q d e x y hc hd he h => ?_⟩
  unfold oLt at h
  split at h
  · exact .inl (.inl ⟨_, _, hd.int_inv, he.int_inv, h.here hc .bl⟩)
  · rename_i l m
    cases e1 : intsOf l with
    | none => simp only [e1] at h; exact h.elim
    | some ns =>
      cases e2 : intsOf m with
      | none => simp only [e1, e2] at h; exact h.elim
      | some ms =>
        simp only [e1, e2] at h
        obtain ⟨a, us, rfl, ha, hl⟩ := hd.tup_inv
        obtain ⟨b, ws, rfl, hb, hm⟩ := he.tup_inv
        have q1 := intsOf_at hl e1
        have q2 := intsOf_at hm e2
        subst q1; subst q2
        exact .inr ⟨a, b, ns, ms, rfl, rfl, ha.sq, hb.sq, h.here hc .bl⟩
  · exact .inl (.inr ⟨_, _, hd.str_inv, he.str_inv, h.here hc .bl⟩)
  · exact h.elim
theorem ro_le {X : Cx} : RO X W (compareOp .LtE) oLe := by
  refine ⟨_, op_le.or op_le_str, fun r o c H t Q d e x y hc hd he h => ?_⟩
  unfold oLe at h
  split at h
  · exact .inl ⟨_, _, hd.int_inv, he.int_inv, h.here hc .bl⟩
  · exact .inr ⟨_, _, hd.str_inv, he.str_inv, h.here hc .bl⟩
  · exact h.elim
theorem ro_gt {X : Cx} : RO X W (compareOp .Gt) oGt := by
  refine ⟨_, op_gt, fun r o c H t Q d e x y hc hd he h => ?_⟩
  unfold oGt at h
  split at h
  · exact ⟨_, _, hd.int_inv, he.int_inv, h.here hc .bl⟩
  · exact h.elim
theorem ro_ge {X : Cx} : RO X W (compareOp .GtE) oGe := by
  refine ⟨_, op_ge, fun r o c H t Q d e x y hc hd he h => ?_⟩
  unfold oGe at h
  split at h
  · exact ⟨_, _, hd.int_inv, he.int_inv, h.here hc .bl⟩
  · exact h.elim
/-! ### == by data -/
mutual
def pyOf : D → Option PyData
  | .non => some .none
  | .bl b => some (.bool b)
  | .int i => some (.int i)
  | .str x => some (.str x)
  | .tup l => (pyAll l).map .tuple
  | .lst l => (pyAll l).map .list
  | .scr l => (pyAll l).map .list
  | .cel _ => none
def pyAll : List D → Option (List PyData)
  | [] => some []
  | d :: ds => match pyOf d, pyAll ds with
    | some x, some xs => some (x :: xs)
    | _, _ => none
end
def pyTop (c : Cs) : D → Option PyData
  | .cel n => (match c[n]? with | some (.lst l) => (pyAll l).map .list | _ => none)
  | d => pyOf d
mutual
theorem dp_of : ∀ {d : D} {v : V} {p : PyData}, Is K r o H d v → pyOf d = some p → Dp K H v p
  | _, _, _, .non, e => by simp only [pyOf] at e; cases e; exact .non
  | _, _, _, .bl, e => by simp only [pyOf] at e; cases e; exact .bl _
  | _, _, _, .int, e => by simp only [pyOf] at e; cases e; exact .int _
  | _, _, _, .str, e => by simp only [pyOf] at e; cases e; exact .str _
  | .tup l, _, p, .tup a b, e => by
    simp only [pyOf] at e
    cases e2 : pyAll l with
    | none => rw [e2] at e; cases e
    | some ps => rw [e2] at e; cases e; exact .tup a.sq (dps_of b e2)
  | .lst l, _, p, .lst a b, e => by
    simp only [pyOf] at e
    cases e2 : pyAll l with
    | none => rw [e2] at e; cases e
    | some ps => rw [e2] at e; cases e; exact .lst a.sq (dps_of b e2)
  | .scr l, _, p, .scr a b, e => by
    simp only [pyOf] at e
    cases e2 : pyAll l with
    | none => rw [e2] at e; cases e
    | some ps => rw [e2] at e; cases e; exact .lst a.sq (dps_of b e2)
  | _, _, _, .cel _, e => by simp only [pyOf] at e; cases e
theorem dps_of : ∀ {ds : List D} {vs : List V} {ps : List PyData}, IsL K r o H ds vs → pyAll ds = some ps → DpAll K H vs ps
  | _, _, _, .nil, e => by simp only [pyAll] at e; cases e; exact .nil
  | d :: ds, _, _, .cons a b, e => by
    simp only [pyAll] at e
    cases e1 : pyOf d with
    | none => simp only [e1] at e; cases e
    | some x =>
      cases e2 : pyAll ds with
      | none => simp only [e1, e2] at e; cases e
      | some xs =>
        simp only [e1, e2] at e
        cases e
        exact .cons (dp_of a e1) (dps_of b e2)
end
theorem dp_top (hc : Cells K r o c H) {d : D} {v : V} {p : PyData} (hv : Is K r o H d v) (e : pyTop c d = some p) : Dp K H v p := by
  cases hv with
  | @cel n a hn =>
    unfold pyTop at e
    cases e2 : c[n]? with
    | none => simp only [e2] at e; cases e
    | some x =>
      cases x with
      | lst l =>
        simp only [e2] at e
        obtain ⟨us, q1, q2⟩ := hc.ok n a _ hn e2
        cases e3 : pyAll l with
        | none => rw [e3] at e; cases e
        | some ps => rw [e3] at e; cases e; exact .lst (.inl (.inl q1)) (dps_of q2 e3)
      | ins C fs => simp only [e2] at e; cases e
      | tab _ _ => simp only [e2] at e; cases e
  | non => exact dp_of (r := r) (o := o) .non e
  | bl => exact dp_of (r := r) (o := o) .bl e
  | int => exact dp_of (r := r) (o := o) .int e
  | str => exact dp_of (r := r) (o := o) .str e
  | tup a b => exact dp_of (.tup a b) e
  | lst a b => exact dp_of (.lst a b) e
  | scr a b => exact dp_of (.scr a b) e
def eqD (c : Cs) (d e : D) : Option Bool := match pyTop c d, pyTop c e with
  | some x, some y => if SeqAt.shaped x = true ∧ SeqAt.shaped y = true then some (PyData.eqv x y) else none
  | _, _ => none
theorem eqD_ok (hc : Cells K r o c H) {d e : D} {x y : V} (hd : Is K r o H d x) (he : Is K r o H e y) {b : Bool} (h : eqD c d e = some b) : ∃ p q, Dp K H x p ∧ Dp K H y q ∧ SeqAt.shaped p = true ∧ SeqAt.shaped q = true ∧ PyData.eqv p q = b := by
  unfold eqD at h
  cases e1 : pyTop c d with
  | none => simp only [e1] at h; cases h
  | some p =>
    cases e2 : pyTop c e with
    | none => simp only [e1, e2] at h; cases h
    | some q =>
      simp only [e1, e2] at h
      split at h
      · rename_i z
        exact ⟨p, q, dp_top hc hd e1, dp_top hc he e2, z.1, z.2, Option.some.inj h⟩
      · cases h
def oEq : D → D → Cs → Res D := fun d e c => match eqD c d e with | some b => .ok (.bl b) c | none => .bad
def oNe : D → D → Cs → Res D := fun d e c => match eqD c d e with | some b => .ok (.bl (!b)) c | none => .bad
theorem ro_eq {X : Cx} {k : Nat} (hr : Room k X.A) : RO X W (compareOp .Eq) oEq := by
  refine ⟨_, op_eqD hr.units, fun r o c H t Q d e x y hc hd he h => ?_⟩
  unfold oEq at h
  cases e1 : eqD c d e with
  | none => simp only [e1] at h; exact h.elim
  | some b =>
    simp only [e1] at h
    obtain ⟨p, q, h1, h2, h3, h4, h5⟩ := eqD_ok hc hd he e1
    exact ⟨p, q, h1, h2, h3, h4, by rw [h5]; exact h.here hc .bl⟩
theorem ro_ne {X : Cx} {k : Nat} (hr : Room k X.A) : RO X W (compareOp .NotEq) oNe := by
  refine ⟨_, op_neD hr.units, fun r o c H t Q d e x y hc hd he h => ?_⟩
  unfold oNe at h
  cases e1 : eqD c d e with
  | none => simp only [e1] at h; exact h.elim
  | some b =>
    simp only [e1] at h
    obtain ⟨p, q, h1, h2, h3, h4, h5⟩ := eqD_ok hc hd he e1
    exact ⟨p, q, h1, h2, h3, h4, by rw [h5]; exact h.here hc .bl⟩
/-! ### is None -/
def oIsN : D → D → Cs → Res D := fun d e c => match e with | .non => (match d with | .non => .ok (.bl true) c | _ => .ok (.bl false) c) | _ => .bad
def oNotN : D → D → Cs → Res D := fun d e c => match e with | .non => (match d with | .non => .ok (.bl false) c | _ => .ok (.bl true) c) | _ => .bad
theorem ro_is {X : Cx} : RO X W (compareOp .Is) oIsN := by
  refine ⟨_, op_isN, fun r o c H t Q d e x y hc hd he h => ?_⟩
  unfold oIsN at h
  split at h
  · refine ⟨he.non_inv, ?_⟩
    cases hd <;> exact h.here hc .bl
  · exact h.elim
theorem ro_isnot {X : Cx} : RO X W (compareOp .IsNot) oNotN := by
  refine ⟨_, op_notN, fun r o c H t Q d e x y hc hd he h => ?_⟩
  unfold oNotN at h
  split at h
  · refine ⟨he.non_inv, ?_⟩
    cases hd <;> exact h.here hc .bl
  · exact h.elim
/-! ### in: of ints, texts, bools, None in a row; of a text in a text -/
def seqOf (c : Cs) : D → Option (List D)
  | .tup l => some l
  | .lst l => some l
  | .scr l => some l
  | .cel n => (match c[n]? with | some (.lst l) => some l | _ => none)
  | _ => none
theorem seqOf_at (hc : Cells K r o c H) {d : D} {v : V} {l : List D} (hv : Is K r o H d v) (e : seqOf c d = some l) : ∃ a us, v = .ref a ∧ (SqL K H a us ∨ SqT K H a us) ∧ IsL K r o H l us := by
  cases hv with
  | tup a b => cases e; exact ⟨_, _, rfl, .inr a.sq, b⟩
  | lst a b => cases e; exact ⟨_, _, rfl, .inl a.sq, b⟩
  | scr a b => cases e; exact ⟨_, _, rfl, .inl a.sq, b⟩
  | @cel n a hn =>
    unfold seqOf at e
    cases e2 : c[n]? with
    | none => simp only [e2] at e; cases e
    | some x =>
      cases x with
      | lst l' =>
        simp only [e2] at e
        cases e
        obtain ⟨us, q1, q2⟩ := hc.ok n a _ hn e2
        exact ⟨a, us, rfl, .inl (.inl (.inl q1)), q2⟩
      | ins C fs => simp only [e2] at e; cases e
      | tab _ _ => simp only [e2] at e; cases e
  | _ => cases e
def flatD : D → Option V
  | .non => some .non
  | .bl b => some (.bl b)
  | .int i => some (.int i)
  | .str x => some (.str x)
  | _ => none
theorem flatD_at {d : D} {v w : V} (hv : Is K r o H d v) (e : flatD d = some w) : v = w := by
  cases hv <;> first | cases e; rfl | cases e
def flatAll : List D → Option (List V)
  | [] => some []
  | d :: ds => match flatD d, flatAll ds with
    | some x, some xs => some (x :: xs)
    | _, _ => none
theorem flatAll_at : ∀ {ds : List D} {vs ws : List V}, IsL K r o H ds vs → flatAll ds = some ws → vs = ws
  | _, _, _, .nil, e => by cases e; rfl
  | d :: ds, _, _, .cons a b, e => by
    simp only [flatAll] at e
    cases e1 : flatD d with
    | none => simp only [e1] at e; cases e
    | some x =>
      cases e2 : flatAll ds with
      | none => simp only [e1, e2] at e; cases e
      | some xs =>
        simp only [e1, e2] at e
        cases e
        rw [flatD_at a e1, flatAll_at b e2]
/-- x in y by values -/
def inD (c : Cs) (d e : D) : Option Bool := match d, e with
  | .str x, .str y => some (!(Builtin.Str.occurrences y x 0 y.length 1).isEmpty)
  | d, e => match flatD d, (seqOf c e).bind flatAll with
    | some x, some xs => if flatV x = true ∧ xs.all flatV = true then some (inV x xs) else none
    | _, _ => none
def oIn : D → D → Cs → Res D := fun d e c => match inD c d e with | some b => .ok (.bl b) c | none => .bad
def oNotIn : D → D → Cs → Res D := fun d e c => match inD c d e with | some b => .ok (.bl (!b)) c | none => .bad
theorem inD_ok (hc : Cells K r o c H) {d e : D} {x y : V} (hd : Is K r o H d x) (he : Is K r o H e y) {b : Bool} (h : inD c d e = some b) :
    (∃ i j, x = .str i ∧ y = .str j ∧ (!(Builtin.Str.occurrences j i 0 j.length 1).isEmpty) = b) ∨ ∃ p xs, y = .ref p ∧ (SqL K H p xs ∨ SqT K H p xs) ∧ flatV x = true ∧ xs.all flatV = true ∧ inV x xs = b := by
  unfold inD at h
  split at h
  · exact .inl ⟨_, _, hd.str_inv, he.str_inv, Option.some.inj h⟩
  · split at h
    · rename_i x' xs e1 e2
      split at h
      · rename_i z
        cases e3 : seqOf c e with
        | none => rw [e3] at e2; cases e2
        | some l =>
          rw [e3, Option.bind_some] at e2
          obtain ⟨a, us, rfl, h1, h2⟩ := seqOf_at hc he e3
          have q1 := flatD_at hd e1
          have q2 := flatAll_at h2 e2
          subst q1; subst q2
          exact .inr ⟨a, us, rfl, h1, z.1, z.2, Option.some.inj h⟩
      · cases h
    · cases h
theorem ro_in {X : Cx} : RO X W (compareOp .In) oIn := by
  refine ⟨_, op_in_str.or op_in_seq, fun r o c H t Q d e x y hc hd he h => ?_⟩
  unfold oIn at h
  cases e1 : inD c d e with
  | none => simp only [e1] at h; exact h.elim
  | some b =>
    simp only [e1] at h
    have q := h.here hc .bl
    rcases inD_ok hc hd he e1 with ⟨i, j, h1, h2, h3⟩ | ⟨p, xs, h1, h2, h3, h4, h5⟩
    · exact .inl ⟨i, j, h1, h2, by rw [h3]; exact q⟩
    · exact .inr ⟨p, xs, h1, h2, h3, h4, by rw [if_neg Bool.false_ne_true, h5]; exact q⟩
theorem ro_notin {X : Cx} : RO X W (compareOp .NotIn) oNotIn := by
  refine ⟨_, op_notin_str.or op_notIn_seq, fun r o c H t Q d e x y hc hd he h => ?_⟩
  unfold oNotIn at h
  cases e1 : inD c d e with
  | none => simp only [e1] at h; exact h.elim
  | some b =>
    simp only [e1] at h
    have q := h.here hc .bl
    rcases inD_ok hc hd he e1 with ⟨i, j, h1, h2, h3⟩ | ⟨p, xs, h1, h2, h3, h4, h5⟩
    · exact .inl ⟨i, j, h1, h2, by rw [h3]; exact q⟩
    · exact .inr ⟨p, xs, h1, h2, h3, h4, by rw [if_pos rfl, h5]; exact q⟩
/-! ### indexing -/
def oIx : D → D → Cs → Res D := fun d e c => match e with
  | .int i => (match d with
    | .str z => if z.length ≤ 100000 then (match atI z.cps.toList i with | some k => .ok (.str ⟨#[k]⟩) c | none => .bad) else .bad
    | d => match seqOf c d with
      | some l => (match atI l i with | some x => .ok x c | none => .bad)
      | none => .bad)
  | _ => .bad
theorem atI_at {ds : List D} {vs : List V} {i : Int} {d : D} (h : IsL K r o H ds vs) (e : atI ds i = some d) : ∃ v, atI vs i = some v ∧ Is K r o H d v := by
  unfold atI at e ⊢
  rw [h.length] at e
  cases e2 : ixN vs.length i with
  | none => rw [e2] at e; cases e
  | some j =>
    rw [e2, Option.bind_some] at e
    rw [Option.bind_some]
    exact h.get e
theorem snd_ix : SndO K W (rIx K) oIx := fun r o c H t Q d e x y hc hd he h => by
  unfold oIx at h
  split at h
  · rename_i i
    split at h
    · rename_i z
      split at h
      · rename_i hz
        cases e1 : atI z.cps.toList i with
        | none => simp only [e1] at h; exact h.elim
        | some k =>
          simp only [e1] at h
          exact .inr (.inr ⟨z, i, k, hd.str_inv, he.int_inv, big_le hz, e1, h.here hc .str⟩)
      · exact h.elim
    · cases e1 : seqOf c d with
      | none => simp only [e1] at h; exact h.elim
      | some l =>
        simp only [e1] at h
        cases e2 : atI l i with
        | none => simp only [e2] at h; exact h.elim
        | some x1 =>
          simp only [e2] at h
          obtain ⟨a, us, rfl, h1, h2⟩ := seqOf_at hc hd e1
          obtain ⟨v, h3, h4⟩ := atI_at h2 e2
          rcases h1 with h1 | h1
          · exact .inl ⟨a, us, i, v, rfl, he.int_inv, h1, h3, h.here hc h4⟩
          · exact .inr (.inl ⟨a, us, i, v, rfl, he.int_inv, h1, h3, h.here hc h4⟩)
  · exact h.elim
theorem re_ix {X : Cx} {e1 e2 : Expr} {f g : FE} {pos : Pos} (ha : RE X W e1 f) (hb : RE X W e2 g) (hs : PlainIx e2 := by intro _ _; rfl) : RE X W (.Subscript e1 e2 pos) (eOp oIx f g) := by
  obtain ⟨_, h1, h2⟩ := ha
  obtain ⟨_, h3, h4⟩ := hb
  exact ⟨_, pe_ix ix_seq h1 h3 hs, snd_op snd_ix h2 h4⟩
/-! ### slices -/
abbrev FO := Sl → Cs → Res (Option Int)
def ROk : List Addr → List Addr → Hp → Option Int → Option Int → Prop := fun _ _ _ a b => a = b
def SndP (K : PySem.W.Frag) (W : WX) (to : TO) (f : FO) : Prop := ∀ r o c s H t Q, Cells K r o c H → SlOk K r o H s t → OkG K W ROk r o H t Q (f s c) → to t H Q
def RP (X : Cx) (W : WX) (e : Option Expr) (f : FO) : Prop := ∃ t, PO X e t ∧ SndP X.K W t f
def pNone : FO := fun _ c => .ok none c
def pSome (f : FE) : FO := fun s c => (f s c).bind fun d c1 => match d with | .int i => .ok (some i) c1 | _ => .bad
def cutD (xs : List D) (lo hi : Option Int) : List D := (xs.drop (HT.sIx xs.length 0 lo)).take (HT.sIx xs.length xs.length hi - HT.sIx xs.length 0 lo)
theorem cutD_at {ds : List D} {vs : List V} (h : IsL K r o H ds vs) (lo hi : Option Int) : IsL K r o H (cutD ds lo hi) (cutV vs lo hi) := by
  unfold cutD cutV
  rw [h.length]
  exact (h.drop _).take _
/-- cell lists are cut into a list that nobody changes -/
def oSl (d : D) (lo hi : Option Int) (c : Cs) : Res D := match d with
  | .tup l => .ok (.tup (cutD l lo hi)) c
  | d => match listOf c d with
    | some l => .ok (.lst (cutD l lo hi)) c
    | none => .bad
theorem HTcut_whole {ds : List D} {lo hi : Option Int} (h : HT.sIx ds.length 0 lo = 0 ∧ HT.sIx ds.length ds.length hi = ds.length) : cutD ds lo hi = ds := by
  unfold cutD
  rw [h.1, h.2]; simp
def eSl (f : FE) (g h : FO) : FE := fun s c => (f s c).bind fun d c1 => (g s c1).bind fun lo c2 => (h s c2).bind fun hi c3 => oSl d lo hi c3
theorem re_sl {X : Cx} {e : Expr} {lo hi : Option Expr} {p2 pos : Pos} {f : FE} {g h : FO} (he : RE X W e f) (hl : RP X W lo g) (hh : RP X W hi h) : RE X W (.Subscript e (.Slice lo hi none p2) pos) (eSl f g h) := by
  obtain ⟨_, h1, h2⟩ := he
  obtain ⟨_, h3, h4⟩ := hl
  obtain ⟨_, h5, h6⟩ := hh
  refine ⟨_, pe_slice (sl_tupA.or sl_list) h1 h3 h5, fun r o c s H t Q hc hs q => ?_⟩
  refine h2 r o c s H t _ hc hs (ok_bind q fun d c1 r1 H1 v s1 hc1 hv q1 => ?_)
  refine h4 r1 o c1 s H1 t _ hc1 (hs.mono s1) (ok_bind q1 fun l c2 r2 H2 l' s2 hc2 el q2 => ?_)
  refine h6 r2 o c2 s H2 t _ hc2 ((hs.mono s1).mono s2) (ok_bind q2 fun u c3 r3 H3 u' s3 hc3 eu q3 => ?_)
  cases el; cases eu
  have hv3 := (hv.mono s2).mono s3
  unfold oSl at q3
  split at q3
  · rename_i l0
    obtain ⟨a, us, rfl, ha, hl⟩ := hv3.tup_inv
    refine .inl ⟨a, us, rfl, ha.sq, fun z => ?_, fun _ p hp => q3 _ _ _ (Step.new hp) (hc3.new hp) (Is.newTup hc3 hp (cutD_at hl _ _))⟩
    rw [← hl.length] at z
    rw [HTcut_whole z] at q3
    exact q3.here hc3 (.tup ha hl)
  · cases e1 : listOf c3 d with
    | none => simp only [e1] at q3; exact q3.elim
    | some l0 =>
      simp only [e1] at q3
      obtain ⟨a, us, rfl, ha, hl⟩ := listOf_at hc3 hv3 e1
      exact .inr ⟨a, us, rfl, .inl (.inl ha), fun p hp => q3 _ _ _ (Step.new hp) (hc3.new hp) (Is.newLst hc3 hp (cutD_at hl _ _))⟩
theorem rp_none {X : Cx} : RP X W none pNone := ⟨_, po_none, fun r o c s H t Q hc hs h => h.here hc rfl⟩
theorem rp_some {X : Cx} {e : Expr} {f : FE} (h : RE X W e f) : RP X W (some e) (pSome f) := by
  obtain ⟨_, h1, h2⟩ := h
  refine ⟨_, po_some h1, fun r o c s H t Q hc hs q => h2 r o c s H t _ hc hs (ok_bind q fun d c1 r1 H1 v s1 hc1 hv q1 => ?_)⟩
  split at q1
  · exact ⟨_, hv.int_inv, q1.here hc1 rfl⟩
  · exact q1.elim
/-! ### built-ins called -/
def SndC (K : PySem.W.Frag) (W : WX) (q : List V → Hp → VK → Prop) (f : List D → Cs → Res D) : Prop := ∀ r o c H t Q ds vs, Cells K r o c H → IsL K r o H ds vs → OkG K W (Is K) r o H t Q (f ds c) → q vs H Q
def RCl (X : Cx) (W : WX) (id : Value) (f : List D → Cs → Res D) : Prop := ∃ q, CallR X id q ∧ SndC X.K W q f
theorem snd_cb {q : List V → Hp → VK → Prop} {ta : TA} {F : List D → Cs → Res D} {f : FA} (hq : SndC K W q F) (hf : SndA K W ta f) : SndE K W (tCB q ta) (fun s c => (f s c).bind fun ds c1 => F ds c1) := fun r o c s H t Q hc hs h =>
  hf r o c s H t _ hc hs (ok_bind h fun ds c1 r1 H1 vs s1 hc1 hv h1 => hq r1 o c1 H1 t Q ds vs hc1 hv h1)
theorem re_cb {X : Cx} {e : Expr} {es : List Expr} {x : Str} {id : String} {p pos : Pos} {F : List D → Cs → Res D} {fa : FA} (hc : RCl X W (.builtin id) F) (hg : Gl X x) (hm : X.mg x = none) (hv : bootBuiltins x = some (.builtin id)) (ha : RA X W (e :: es) fa) (hn : x ≠ "__name__" := by decide) (hdb : (x == ("__debug__" : Str)) = false := by decide)
    (he : starEach (e :: es) X.env = (false, eval e X.env) :: starEach es X.env := by rfl) (hpl : (backTo pos (starEach es X.env)).any (·.1) = false := by rfl) : RE X W (.Call (.Name x p) (e :: es) [] pos) (eCall F fa) := by
  obtain ⟨_, h1, h2⟩ := hc
  obtain ⟨_, h3, h4⟩ := ha
  exact ⟨_, pe_callB h1 hg hm hv h3 hn hdb he hpl, snd_cb h2 h4⟩
theorem re_ct {X : Cx} {e : Expr} {es : List Expr} {x : Str} {id : String} {p pos : Pos} {F : List D → Cs → Res D} {fa : FA} (hc : RCl X W (.type id) F) (hg : Gl X x) (hm : X.mg x = none) (hv : bootBuiltins x = some (.type id)) (ha : RA X W (e :: es) fa) (hn : x ≠ "__name__" := by decide) (hdb : (x == ("__debug__" : Str)) = false := by decide)
    (he : starEach (e :: es) X.env = (false, eval e X.env) :: starEach es X.env := by rfl) (hpl : (backTo pos (starEach es X.env)).any (·.1) = false := by rfl) : RE X W (.Call (.Name x p) (e :: es) [] pos) (eCall F fa) := by
  obtain ⟨_, h1, h2⟩ := hc
  obtain ⟨_, h3, h4⟩ := ha
  exact ⟨_, pe_callTy h1 hg hm hv h3 hn hdb he hpl, snd_cb h2 h4⟩
def fLen : List D → Cs → Res D := fun ds c => match ds with
  | [.str z] => if z.length ≤ 100000 then .ok (.int z.length) c else .bad
  | [d] => (match seqOf c d with | some l => .ok (.int l.length) c | none => .bad)
  | _ => .bad
theorem rcl_len {X : Cx} : RCl X W (.builtin "len") fLen := by
  refine ⟨_, call_len, fun r o c H t Q ds vs hc hv h => ?_⟩
  unfold fLen at h
  split at h
  · cases hv with
    | cons a b =>
      cases b
      split at h
      · rename_i z hz
        exact ⟨_, _, rfl, by rw [a.str_inv]; exact ⟨big_le hz, rfl⟩, h.here hc .int⟩
      · exact h.elim
  · rename_i d _
    cases hv with
    | cons a b =>
      cases b
      cases e1 : seqOf c d with
      | none => simp only [e1] at h; exact h.elim
      | some l =>
        simp only [e1] at h
        obtain ⟨p, us, rfl, h1, h2⟩ := seqOf_at hc a e1
        refine ⟨_, us.length, rfl, h1.elim (fun z => .inl ⟨us, z, rfl⟩) fun z => .inr ⟨us, z, rfl⟩, ?_⟩
        rw [← h2.length]
        exact h.here hc .int
  · exact h.elim
def fInt : List D → Cs → Res D := fun ds c => match ds with
  | [.int i] => .ok (.int i) c
  | [.bl b] => .ok (.int (if b then 1 else 0)) c
  | _ => .bad
theorem rcl_int {X : Cx} : RCl X W (.type "int") fInt := by
  refine ⟨_, call_int1, fun r o c H t Q ds vs hc hv h => ?_⟩
  unfold fInt at h
  split at h
  · cases hv with
    | cons a b => cases b; exact .inl ⟨_, by rw [a.int_inv], h.here hc .int⟩
  · cases hv with
    | cons a b => cases b; exact .inr ⟨_, by rw [a.bl_inv], h.here hc .int⟩
  · exact h.elim
def fMin : List D → Cs → Res D := fun ds c => match ds with
  | [.int i, .int j] => .ok (.int (if j < i then j else i)) c
  | _ => .bad
theorem rcl_min {X : Cx} (hc : X.calm = true) : RCl X W (.builtin "min") fMin := by
  refine ⟨_, call_min2 hc, fun r o c H t Q ds vs hc hv h => ?_⟩
  unfold fMin at h
  split at h
  · cases hv with
    | cons a b =>
      cases b with
      | cons a2 b2 =>
        cases b2
        exact ⟨_, _, by rw [a.int_inv, a2.int_inv], h.here hc .int⟩
  · exact h.elim
def fMax : List D → Cs → Res D := fun ds c => match ds with
  | [.int i, .int j] => .ok (.int (if j > i then j else i)) c
  | _ => .bad
theorem rcl_max {X : Cx} (hc : X.calm = true) : RCl X W (.builtin "max") fMax := by
  refine ⟨_, call_max2 hc, fun r o c H t Q ds vs hc hv h => ?_⟩
  unfold fMax at h
  split at h
  · cases hv with
    | cons a b =>
      cases b with
      | cons a2 b2 =>
        cases b2
        exact ⟨_, _, by rw [a.int_inv, a2.int_inv], h.here hc .int⟩
  · exact h.elim
/-- list(x): a list that nobody changes -/
def fList : List D → Cs → Res D := fun ds c => match ds with
  | [d] => (match seqOf c d with | some l => .ok (.lst l) c | none => .bad)
  | _ => .bad
/-- .. that is changed later -/
def fListN : List D → Cs → Res D := fun ds c => match ds with
  | [d] => (match seqOf c d with | some l => .ok (.cel c.length) (c ++ [.lst l]) | none => .bad)
  | _ => .bad
theorem rcl_list {X : Cx} : RCl X W (.type "list") fList := by
  refine ⟨_, call_list_of, fun r o c H t Q ds vs hc hv h => ?_⟩
  unfold fList at h
  split at h
  · rename_i d
    cases hv with
    | cons a b =>
      cases b
      cases e1 : seqOf c d with
      | none => simp only [e1] at h; exact h.elim
      | some l =>
        simp only [e1] at h
        obtain ⟨p, us, rfl, h1, h2⟩ := seqOf_at hc a e1
        exact ⟨p, us, rfl, h1, fun q hq => h _ _ _ (Step.new hq) (hc.new hq) (Is.newLst hc hq h2)⟩
  · exact h.elim
theorem rcl_listN {X : Cx} : RCl X W (.type "list") fListN := by
  refine ⟨_, call_list_of, fun r o c H t Q ds vs hc hv h => ?_⟩
  unfold fListN at h
  split at h
  · rename_i d
    cases hv with
    | cons a b =>
      cases b
      cases e1 : seqOf c d with
      | none => simp only [e1] at h; exact h.elim
      | some l =>
        simp only [e1] at h
        obtain ⟨p, us, rfl, h1, h2⟩ := seqOf_at hc a e1
        refine ⟨p, us, rfl, h1, fun q hq => h _ _ _ (Step.cell hq (hc.fresh hq)) (hc.cell hq h2) (.cel ?_)⟩
        rw [← hc.len, List.getElem?_append_right (Nat.le_refl _)]; simp
  · exact h.elim
/-- tuple(x), x a list or a tuple -/
def oTupOf (d : D) (c : Cs) : Res D := match d with
  | .tup l => .ok (.tup l) c
  | d => match seqOf c d with | some l => .ok (.tup l) c | none => .bad
def eTupOf (f : FE) : FE := fun s c => (f s c).bind oTupOf
theorem re_tupOf {X : Cx} {a : Expr} {p pos : Pos} {f : FE} (hg : Gl X "tuple") (hm : X.mg "tuple" = none) (ha : RE X W a f) (na : starEach [a] X.env = (false, eval a X.env) :: starEach [] X.env := by rfl) : RE X W (.Call (.Name "tuple" p) [a] [] pos) (eTupOf f) := by
  obtain ⟨_, h1, h2⟩ := ha
  refine ⟨_, pe_tupleOf hg hm h1 na, fun r o c s H t Q hc hs h => h2 r o c s H t _ hc hs (ok_bind h fun d c1 r1 H1 v s1 hc1 hv q => ?_)⟩
  unfold oTupOf at q
  split at q
  · obtain ⟨b, us, rfl, ha, hl⟩ := hv.tup_inv
    exact .inr ⟨b, us, rfl, ha.sq, q.here hc1 (.tup ha hl)⟩
  · rename_i hne
    cases e1 : seqOf c1 d with
    | none => simp only [e1] at q; exact q.elim
    | some l =>
      simp only [e1] at q
      obtain ⟨b, us, rfl, h3, h4⟩ := seqOf_at hc1 hv e1
      cases hv with
      | tup _ _ => exact (hne _ rfl).elim
      | lst ha hl =>
        cases e1
        exact .inl ⟨_, _, rfl, ha.sq, fun p hp => q _ _ _ (Step.new hp) (hc1.new hp) (Is.newTup hc1 hp hl)⟩
      | scr ha hl =>
        cases e1
        exact .inl ⟨_, _, rfl, ha.sq, fun p hp => q _ _ _ (Step.new hp) (hc1.new hp) (Is.newTup hc1 hp hl)⟩
      | cel hn =>
        rcases h3 with h3 | h3
        · exact .inl ⟨_, _, rfl, h3, fun p hp => q _ _ _ (Step.new hp) (hc1.new hp) (Is.newTup hc1 hp h4)⟩
        · rename_i n
          unfold seqOf at e1
          cases e2 : c1[n]? with
          | none => simp only [e2] at e1; cases e1
          | some x =>
            cases x with
            | lst l' =>
              simp only [e2] at e1
              cases e1
              obtain ⟨us', q1, q2⟩ := hc1.ok n b _ hn e2
              exact .inl ⟨_, _, rfl, .inl (.inl q1), fun p hp => q _ _ _ (Step.new hp) (hc1.new hp) (Is.newTup hc1 hp q2)⟩
            | ins C fs => simp only [e2] at e1; cases e1
            | tab _ _ => simp only [e2] at e1; cases e1
      | _ => cases e1
end RL

set_option Elab.async false
set_option linter.all false
set_option maxRecDepth 100000
set_option maxHeartbeats 2000000
namespace RL
open PySem PySem.Spec PyProof.Rows L2
variable {K : PySem.W.Frag} {r r' r1 r2 o o' o1 : List Addr} {H H' H1 H2 : Hp} {c c' c1 c2 : Cs} {W : WX} {t : L2.St}
/-! ### code that is never reached -/
theorem rs_dead {X : Cx} {st : Stmt} : RS X W st (fun _ _ => .bad) := ⟨fun _ _ _ => False, ⟨fun _ _ _ _ _ _ h => h.elim⟩, fun _ _ _ _ _ _ _ _ _ h => h⟩
theorem rss_dead {X : Cx} {st : List Stmt} : RSs X W st (fun _ _ => .bad) := ⟨fun _ _ _ => False, ⟨fun _ _ _ _ _ _ h => h.elim⟩, fun _ _ _ _ _ _ _ _ _ h => h⟩
theorem re_dead {X : Cx} {e : Expr} : RE X W e (fun _ _ => .bad) := ⟨fun _ _ _ => False, ⟨fun _ _ _ _ _ _ h => h.elim⟩, fun _ _ _ _ _ _ _ _ _ h => h⟩
theorem rt_dead {X : Cx} {e : Expr} : RT X W e (fun _ _ => .bad) := ⟨fun _ _ _ => False, ⟨fun _ _ _ _ _ _ h => h.elim⟩, fun _ _ _ _ _ _ _ _ _ h => h⟩
/-! ### isinstance -/
def tyName (c : Cs) : D → Option String
  | .non => some "NoneType"
  | .bl _ => some "bool"
  | .int _ => some "int"
  | .str _ => some "str"
  | .tup _ => some "tuple"
  | .lst _ => some "list"
  | .scr _ => some "list"
  | .cel n => (match c[n]? with | some (.lst _) => some "list" | _ => none)
theorem tyName_at (hc : Cells K r o c H) {d : D} {v : V} {T : String} (hv : Is K r o H d v) (e : tyName c d = some T) : TyX K H v (.type T) := by
  cases hv with
  | non => cases e; exact .base .non
  | bl => cases e; exact .base (.bl _)
  | int => cases e; exact .base (.int _)
  | str => cases e; exact .base (.str _)
  | tup a b =>
    cases e
    rcases a with a | ⟨ob, its, n, h1, h2, h3, h4, h5⟩
    · rcases a.2.2 with q | ⟨b, q⟩
      · exact .base (.tup q)
      · exact .fTuple q
    · exact .kTuple h1 h2
  | lst a b => cases e; exact .base (.lst a.2.2)
  | scr a b =>
    cases e
    rcases a with a | ⟨ob, its, n, h1, h2, h3, h4, h5, h6⟩
    · rcases a.2.2 with q | ⟨b, q⟩
      · exact .base (.lst q)
      · exact .base (.frz q)
    · exact .kList h1 h2
  | @cel n a hn =>
    unfold tyName at e
    cases e2 : c[n]? with
    | none => simp only [e2] at e; cases e
    | some x =>
      cases x with
      | lst l' =>
        simp only [e2] at e
        cases e
        obtain ⟨us, q1, q2⟩ := hc.ok n a _ hn e2
        exact .base (.lst q1)
      | ins C fs => simp only [e2] at e; cases e
      | tab _ _ => simp only [e2] at e; cases e
def kitBs (a : String) : List String → Option Bool
  | [] => some false
  | b :: r => match kitB a b with
    | some true => some true
    | some false => kitBs a r
    | none => none
theorem kitBs_any {K : PySem.W.Frag} {a : String} : ∀ {bs : List String} {r : Bool}, kitBs a bs = some r → PySem.W.kitAny K (.type a) (bs.map Value.type) = some r
  | [], r, h => h
  | b :: bs, r, h => by
    unfold kitBs at h
    show (match PySem.W.kitOne K (.type a) (.type b) with | some true => some true | some false => PySem.W.kitAny K (.type a) (bs.map Value.type) | none => none) = some r
    cases e : kitB a b with
    | none => simp only [e] at h; cases h
    | some q =>
      rw [kit_ty e]
      cases q with
      | true => simp only [e] at h; exact h
      | false => simp only [e] at h; exact kitBs_any h
def isiD (c : Cs) (d : D) (Ts : List String) : Option Bool := (tyName c d).bind fun a => kitBs a Ts
def eIsi (f : FE) (Ts : List String) : FE := fun s c => (f s c).bind fun d c1 => match isiD c1 d Ts with | some b => .ok (.bl b) c1 | none => .bad
section
variable {X : Cx} {e : Expr} {f : FE} {p p2 pos : Pos} {T : Str} {id : String}
theorem kitBs_one {a b : String} {r : Bool} (h : kitBs a [b] = some r) : kitB a b = some r := by
  unfold kitBs at h
  cases e : kitB a b with
  | none => simp only [e] at h; cases h
  | some q =>
    cases q with
    | true => simp only [e] at h; exact h
    | false => simp only [e] at h; exact h
theorem re_isi (hg : Gl X "isinstance") (hm : X.mg "isinstance" = none) (he : RE X W e f) (hT : Gl X T) (mT : X.mg T = none) (vT : bootBuiltins T = some (.type id)) (hn : T ≠ "__name__" := by decide) (hd : (T == ("__debug__" : Str)) = false := by decide)
    (hs : starEach [e, .Name T p2] X.env = (false, eval e X.env) :: starEach [.Name T p2] X.env := by rfl) (hpl : (backTo pos (starEach [.Name T p2] X.env)).any (·.1) = false := by rfl) : RE X W (.Call (.Name "isinstance" p) [e, .Name T p2] [] pos) (eIsi f [id]) := by
  obtain ⟨_, h1, h2⟩ := he
  refine ⟨_, pe_callB call_isi hg hm PyProof.Rows.boot_isinstance (pa_cons h1 (pa_cons (pe_bltn (v := .ty id) hT mT vT rfl hn hd) pa_nil rfl) hs) (by decide) (by decide) hs hpl, fun r o c s H t Q hc hs h => ?_⟩
  refine h2 r o c s H t _ hc hs (ok_bind h fun d c1 r1 H1 v s1 hc1 hv h1 => ?_)
  unfold isiD at h1
  cases e1 : tyName c1 d with
  | none => simp only [e1, Option.bind_none] at h1; exact h1.elim
  | some a =>
    simp only [e1, Option.bind_some] at h1
    cases e2 : kitBs a [id] with
    | none => simp only [e2] at h1; exact h1.elim
    | some b =>
      simp only [e2] at h1
      exact ⟨v, .ty id, _, _, b, rfl, .ty id, tyName_at hc1 hv e1, kit_ty (kitBs_one e2), h1.here hc1 .bl⟩
/-- isinstance(x, (T1, T2)) -/
theorem re_isi2 {T2 : Str} {id2 : String} {k : Nat} {p3 p4 : Pos} (hg : Gl X "isinstance") (hm : X.mg "isinstance" = none) (he : RE X W e f) (hT : Gl X T) (mT : X.mg T = none) (vT : bootBuiltins T = some (.type id)) (hT2 : Gl X T2) (mT2 : X.mg T2 = none) (vT2 : bootBuiltins T2 = some (.type id2))
    (hn : T ≠ "__name__" := by decide) (hd : (T == ("__debug__" : Str)) = false := by decide) (hn2 : T2 ≠ "__name__" := by decide) (hd2 : (T2 == ("__debug__" : Str)) = false := by decide)
    (hs : starEach [e, .Tuple [.Name T p2, .Name T2 p3] k p4] X.env = (false, eval e X.env) :: starEach [.Tuple [.Name T p2, .Name T2 p3] k p4] X.env := by rfl) (hpl : (backTo pos (starEach [.Tuple [.Name T p2, .Name T2 p3] k p4] X.env)).any (·.1) = false := by rfl) :
    RE X W (.Call (.Name "isinstance" p) [e, .Tuple [.Name T p2, .Name T2 p3] k p4] [] pos) (eIsi f [id, id2]) := by
  obtain ⟨_, h1, h2⟩ := he
  refine ⟨_, pe_callB call_isiT hg hm PyProof.Rows.boot_isinstance (pa_cons h1 (pa_cons (pe_tup (pa_cons (pe_bltn (v := .ty id) hT mT vT rfl hn hd) (pa_cons (pe_bltn (v := .ty id2) hT2 mT2 vT2 rfl hn2 hd2) pa_nil rfl) rfl)) pa_nil rfl) hs) (by decide) (by decide) hs hpl, fun r o c s H t Q hc hs h => ?_⟩
  refine h2 r o c s H t _ hc hs (ok_bind h fun d c1 r1 H1 v s1 hc1 hv h1 => ?_)
  unfold isiD at h1
  cases e1 : tyName c1 d with
  | none => simp only [e1, Option.bind_none] at h1; exact h1.elim
  | some a =>
    simp only [e1, Option.bind_some] at h1
    cases e2 : kitBs a [id, id2] with
    | none => simp only [e2] at h1; exact h1.elim
    | some b =>
      simp only [e2] at h1
      refine ⟨by show 2 ≤ sizeLine; decide, fun p hp => ?_⟩
      exact ⟨v, p, [.ty id, .ty id2], _, [.type id, .type id2], b, rfl, upd_same, .cons (.ty id) (.cons (.ty id2) .nil), tyName_at (hc1.new hp) (hv.mono (Step.new hp)) e1, kitBs_any e2, h1 _ _ _ (Step.new hp) (hc1.new hp) .bl⟩
end
/-! ### methods of lists that change -/
def celOf (c : Cs) : D → Option (Nat × List D)
  | .cel n => (match c[n]? with | some (.lst l) => some (n, l) | _ => none)
  | _ => none
theorem celOf_at (hc : Cells K r o c H) {d : D} {v : V} {n : Nat} {l : List D} (hv : Is K r o H d v) (e : celOf c d = some (n, l)) : ∃ a us, v = .ref a ∧ r[n]? = some a ∧ c[n]? = some (.lst l) ∧ H a = some (.lst us) ∧ IsL K r o H l us := by
  cases hv with
  | @cel n' a hn =>
    unfold celOf at e
    cases e2 : c[n']? with
    | none => simp only [e2] at e; cases e
    | some x =>
      cases x with
      | lst l' =>
        simp only [e2] at e
        cases e
        obtain ⟨us, q1, q2⟩ := hc.ok _ a _ hn e2
        exact ⟨a, us, rfl, hn, e2, q1, q2⟩
      | ins C fs => simp only [e2] at e; cases e
      | tab _ _ => simp only [e2] at e; cases e
  | _ => cases e
section
variable {X : Cx} {e1 e2 : Expr} {f g : FE} {apos cpos pos : Pos}
/-- xs.append(e) -/
def eApp (f g : FE) : FE := fun s c => (f s c).bind fun d c1 => match celOf c1 d with
  | none => .bad
  | some _ => (g s c1).bind fun e c2 => match celOf c2 d with
    | some (n, l) => if l.length < 100000 then .ok .non (c2.set n (.lst (l ++ [e]))) else .bad
    | none => .bad
theorem re_app (hf : RE X W e1 f) (hg : RE X W e2 g) (hbase : attributeBase e1 "append" X.env (eval e1 X.env) = eval e1 X.env := by rfl)
    (hfew : ((backTo cpos (starEach [e2] X.env)).all (fun x => !x.1) && (backToKw cpos (keywordEach [] X.env)).all (fun x => x.1.isSome) && decide ([e2].length + ([] : List Keyword).length + (if ([] : List Keyword).isEmpty then 0 else 1) < 30)) = true := by rfl)
    (hline : (apos.endLine == cpos.line) = true := by rfl) (hs : starEach [e2] X.env = (false, eval e2 X.env) :: starEach [] X.env := by rfl) (hpl : (backTo cpos (starEach [] X.env)).any (·.1) = false := by rfl) :
    RE X W (.Call (.Attribute e1 "append" apos) [e2] [] cpos) (eApp f g) := by
  obtain ⟨_, h1, h2⟩ := hf
  obtain ⟨_, h3, h4⟩ := hg
  refine ⟨_, pe_bm PySem.F.plainAttrs_list PySem.F.slot_list_append PySem.F.type_list_append mt_append h1 (pa_cons h3 pa_nil hs) hbase hfew hline hs hpl, fun r o c s H t Q hc hs h => ?_⟩
  refine h2 r o c s H t _ hc hs (ok_bind h fun d c1 r1 H1 v s1 hc1 hv q1 => ?_)
  cases ec : celOf c1 d with
  | none => simp only [ec] at q1; exact q1.elim
  | some z =>
    simp only [ec] at q1
    obtain ⟨n0, l0⟩ := z
    obtain ⟨a0, us0, e0, _, _, hl0, _⟩ := celOf_at hc1 hv ec
    refine ⟨by rw [e0]; exact .inl ⟨rfl, us0, .inl (.inl hl0)⟩, ?_⟩
    refine h4 r1 o c1 s H1 t _ hc1 (hs.mono s1) (ok_bind q1 fun d2 c2 r2 H2 w s2 hc2 hw q2 => ?_)
    cases ec2 : celOf c2 d with
    | none => simp only [ec2] at q2; exact q2.elim
    | some z2 =>
      obtain ⟨n, l⟩ := z2
      simp only [ec2] at q2
      split at q2
      · rename_i hz
        obtain ⟨a, us, ea, hn, hcn, hl, hu⟩ := celOf_at hc2 (hv.mono s2) ec2
        refine ⟨a, us, w, ea, rfl, hl, Nat.lt_of_lt_of_le (by rw [← hu.length]; exact hz) (by decide : 100000 ≤ sizeLine), ?_⟩
        exact q2 _ _ _ (Step.mut (List.mem_of_getElem? hn)) (hc2.setL hn (hu.app (.cons hw .nil))) .non
      · exact q2.elim
/-- xs.extend(ys), ys a list -/
def eExt (f g : FE) : FE := fun s c => (f s c).bind fun d c1 => match celOf c1 d with
  | none => .bad
  | some _ => (g s c1).bind fun e c2 => match celOf c2 d, listOf c2 e with
    | some (n, l), some m => if l.length + m.length ≤ 100000 then .ok .non (c2.set n (.lst (l ++ m))) else .bad
    | _, _ => .bad
theorem re_ext (hf : RE X W e1 f) (hg : RE X W e2 g) (hbase : attributeBase e1 "extend" X.env (eval e1 X.env) = eval e1 X.env := by rfl)
    (hfew : ((backTo cpos (starEach [e2] X.env)).all (fun x => !x.1) && (backToKw cpos (keywordEach [] X.env)).all (fun x => x.1.isSome) && decide ([e2].length + ([] : List Keyword).length + (if ([] : List Keyword).isEmpty then 0 else 1) < 30)) = true := by rfl)
    (hline : (apos.endLine == cpos.line) = true := by rfl) (hs : starEach [e2] X.env = (false, eval e2 X.env) :: starEach [] X.env := by rfl) (hpl : (backTo cpos (starEach [] X.env)).any (·.1) = false := by rfl) :
    RE X W (.Call (.Attribute e1 "extend" apos) [e2] [] cpos) (eExt f g) := by
  obtain ⟨_, h1, h2⟩ := hf
  obtain ⟨_, h3, h4⟩ := hg
  refine ⟨_, pe_bm PySem.F.plainAttrs_list PySem.F.slot_list_extend PySem.F.type_list_extend mt_extend h1 (pa_cons h3 pa_nil hs) hbase hfew hline hs hpl, fun r o c s H t Q hc hs h => ?_⟩
  refine h2 r o c s H t _ hc hs (ok_bind h fun d c1 r1 H1 v s1 hc1 hv q1 => ?_)
  cases ec : celOf c1 d with
  | none => simp only [ec] at q1; exact q1.elim
  | some z =>
    simp only [ec] at q1
    obtain ⟨n0, l0⟩ := z
    obtain ⟨a0, us0, e0, _, _, hl0, _⟩ := celOf_at hc1 hv ec
    refine ⟨by rw [e0]; exact .inl ⟨rfl, us0, .inl (.inl hl0)⟩, ?_⟩
    refine h4 r1 o c1 s H1 t _ hc1 (hs.mono s1) (ok_bind q1 fun d2 c2 r2 H2 w s2 hc2 hw q2 => ?_)
    cases ec2 : celOf c2 d with
    | none => simp only [ec2] at q2; exact q2.elim
    | some z2 =>
      obtain ⟨n, l⟩ := z2
      cases el : listOf c2 d2 with
      | none => simp only [ec2, el] at q2; exact q2.elim
      | some m =>
        simp only [ec2, el] at q2
        split at q2
        · rename_i hz
          obtain ⟨a, us, ea, hn, hcn, hl, hu⟩ := celOf_at hc2 (hv.mono s2) ec2
          obtain ⟨b, ws, eb, hb, hm⟩ := listOf_at hc2 hw el
          refine ⟨a, b, us, ws, ea, by rw [eb], hl, hb, by rw [← hu.length, ← hm.length]; exact big_le hz, ?_⟩
          exact q2 _ _ _ (Step.mut (List.mem_of_getElem? hn)) (hc2.setL hn (hu.app hm)) .non
        · exact q2.elim
/-- xs.pop() -/
def ePop (f : FE) : FE := fun s c => (f s c).bind fun d c1 => match celOf c1 d with
  | some (n, l) => (match l[l.length - 1]? with | some x => .ok x (c1.set n (.lst l.dropLast)) | none => .bad)
  | none => .bad
theorem re_pop (hf : RE X W e1 f) (hbase : attributeBase e1 "pop" X.env (eval e1 X.env) = eval e1 X.env := by rfl) (hline : (apos.endLine == cpos.line) = true := by rfl) : RE X W (.Call (.Attribute e1 "pop" apos) [] [] cpos) (ePop f) := by
  obtain ⟨_, h1, h2⟩ := hf
  refine ⟨_, pe_bm0 PySem.F.plainAttrs_list PySem.F.slot_list_pop PySem.F.type_list_pop mt_pop h1 hbase hline, fun r o c s H t Q hc hs h => ?_⟩
  refine h2 r o c s H t _ hc hs (ok_bind h fun d c1 r1 H1 v s1 hc1 hv q1 => ?_)
  cases ec : celOf c1 d with
  | none => simp only [ec] at q1; exact q1.elim
  | some z =>
    obtain ⟨n, l⟩ := z
    simp only [ec] at q1
    cases el : l[l.length - 1]? with
    | none => simp only [el] at q1; exact q1.elim
    | some x =>
      simp only [el] at q1
      obtain ⟨a, us, ea, hn, hcn, hl, hu⟩ := celOf_at hc1 hv ec
      obtain ⟨y, hy, hxy⟩ := hu.get el
      refine ⟨by rw [ea]; exact .inl ⟨rfl, us, .inl (.inl hl)⟩, a, us, y, ea, rfl, hl, by rw [← hu.length]; exact hy, ?_⟩
      have st := Step.mut (r := r1) (H := H1) (u := .lst us.dropLast) (List.mem_of_getElem? hn)
      exact q1 _ _ _ st (hc1.setL hn hu.dropLast) (hxy.mono st)
/-- xs[i] = .. -/
def gtSub (f g : FE) : FG := fun v s c => (f s c).toS s fun d c1 => (g s c1).toS s fun e c2 => match celOf c2 d, e with
  | some (n, l), .int i => (match ixN l.length i with | some j => .nx s (c2.set n (.lst (l.set j v))) | none => .bad)
  | _, _ => .bad
theorem rg_sub (hf : RE X W e1 f) (hg : RE X W e2 g) (ha : ∀ v, assign (.Subscript e1 e2 pos) X.env v = (do
      let ov ← holding [v] (eval e1 X.env)
      let iv ← holding [v, ov] (eval e2 X.env)
      standAt pos
      holding [v, ov, iv] (setItem ov iv v)
      release [v, ov, iv] []) := by intro _; rfl) : RG X W (.Subscript e1 e2 pos) (gtSub f g) := by
  obtain ⟨_, h1, h2⟩ := hf
  obtain ⟨_, h3, h4⟩ := hg
  refine ⟨_, pg_sub h1 h3 set_list ha, fun r o c s H t D dv vv hc hs hvv h => ?_⟩
  refine h2 r o c s H t _ hc hs (ok_toS hs h fun d c1 r1 H1 v s1 hc1 hv q1 => ?_)
  refine h4 r1 o c1 s H1 t _ hc1 (hs.mono s1) (ok_toS (hs.mono s1) q1 fun e c2 r2 H2 w s2 hc2 hw q2 => ?_)
  cases ec : celOf c2 d with
  | none => simp only [ec] at q2; exact q2.elim
  | some z =>
    obtain ⟨n, l⟩ := z
    cases e with
    | int i =>
      simp only [ec] at q2
      cases ej : ixN l.length i with
      | none => simp only [ej] at q2; exact q2.elim
      | some j =>
        simp only [ej] at q2
        obtain ⟨a, us, ea, hn, hcn, hl, hu⟩ := celOf_at hc2 (hv.mono s2) ec
        refine ⟨a, us, i, j, ea, hw.int_inv, hl, by rw [← hu.length]; exact ej, ?_⟩
        have st := Step.mut (r := r2) (H := H2) (u := .lst (us.set j vv)) (List.mem_of_getElem? hn)
        exact q2 _ _ _ st (hc2.setL hn (IsL.set ((hvv.mono s1).mono s2) j hu)) (((hs.mono s1).mono s2).mono st)
    | _ => simp only [ec] at q2; exact q2.elim
/-! ### texts -/
/-- s.index(x) -/
def eIdx (f g : FE) : FE := fun s c => (f s c).bind fun d c1 => match d with
  | .str a => (g s c1).bind fun e c2 => (match e with
    | .str b => (match Builtin.Str.occurrences a b 0 a.length 1 with | i :: _ => .ok (.int (i : Nat)) c2 | [] => .bad)
    | _ => .bad)
  | _ => .bad
theorem re_idx (hf : RE X W e1 f) (hg : RE X W e2 g) (hs : starEach [e2] X.env = [(false, eval e2 X.env)] := by rfl) (hbase : attributeBase e1 "index" X.env (eval e1 X.env) = eval e1 X.env := by rfl) (hline : (apos.endLine == pos.line) = true := by rfl) :
    RE X W (.Call (.Attribute e1 "index" apos) [e2] [] pos) (eIdx f g) := by
  obtain ⟨_, h1, h2⟩ := hf
  obtain ⟨_, h3, h4⟩ := hg
  refine ⟨_, pe_m1 PySem.F.slot_str_index PySem.F.type_str_index mt_sindex h1 h3 hs hbase hline, fun r o c s H t Q hc hs h => ?_⟩
  refine h2 r o c s H t _ hc hs (ok_bind h fun d c1 r1 H1 v s1 hc1 hv q1 => ?_)
  split at q1
  · rename_i a
    refine ⟨⟨a, hv.str_inv⟩, ?_⟩
    refine h4 r1 o c1 s H1 t _ hc1 (hs.mono s1) (ok_bind q1 fun e c2 r2 H2 w s2 hc2 hw q2 => ?_)
    split at q2
    · rename_i b
      split at q2
      · rename_i i rest eo
        exact ⟨a, b, i, rest, hv.str_inv, by rw [hw.str_inv], eo, q2.here hc2 .int⟩
      · exact q2.elim
    · exact q2.elim
  · exact q1.elim
/-- sep.join(list of texts) -/
def strsOf : List D → Option (List Str)
  | [] => some []
  | .str x :: r => (strsOf r).map (x :: ·)
  | _ :: _ => none
theorem strsOf_at : ∀ {ds : List D} {vs : List V} {ys : List Str}, IsL K r o H ds vs → strsOf ds = some ys → vs = ys.map V.str
  | [], _, _, .nil, e => by cases e; rfl
  | d :: ds, _, ys, .cons a b, e => by
    cases d with
    | str x =>
      unfold strsOf at e
      cases e2 : strsOf ds with
      | none => rw [e2] at e; cases e
      | some zs =>
        rw [e2] at e
        cases e
        rw [a.str_inv, strsOf_at b e2]
        rfl
    | _ => cases e
def eJoin (f g : FE) : FE := fun s c => (f s c).bind fun d c1 => match d with
  | .str a => (g s c1).bind fun e c2 => (match (seqOf c2 e).bind strsOf with
    | some ys => if (ys.map (·.length)).sum + ys.length * a.length ≤ 100000 then .ok (.str (Txt.join a ys)) c2 else .bad
    | none => .bad)
  | _ => .bad
theorem re_join (hf : RE X W e1 f) (hg : RE X W e2 g) (hs : starEach [e2] X.env = [(false, eval e2 X.env)] := by rfl) (hbase : attributeBase e1 "join" X.env (eval e1 X.env) = eval e1 X.env := by rfl) (hline : (apos.endLine == pos.line) = true := by rfl) :
    RE X W (.Call (.Attribute e1 "join" apos) [e2] [] pos) (eJoin f g) := by
  obtain ⟨_, h1, h2⟩ := hf
  obtain ⟨_, h3, h4⟩ := hg
  refine ⟨_, pe_join h1 h3 hs hbase hline, fun r o c s H t Q hc hs h => ?_⟩
  refine h2 r o c s H t _ hc hs (ok_bind h fun d c1 r1 H1 v s1 hc1 hv q1 => ?_)
  split at q1
  · rename_i a
    refine ⟨⟨a, hv.str_inv⟩, ?_⟩
    refine h4 r1 o c1 s H1 t _ hc1 (hs.mono s1) (ok_bind q1 fun e c2 r2 H2 w s2 hc2 hw q2 => ?_)
    cases e1 : seqOf c2 e with
    | none => simp only [e1, Option.bind_none] at q2; exact q2.elim
    | some l =>
      simp only [e1, Option.bind_some] at q2
      cases e2 : strsOf l with
      | none => simp only [e2] at q2; exact q2.elim
      | some ys =>
        simp only [e2] at q2
        split at q2
        · rename_i hz
          obtain ⟨p, us, rfl, h5, h6⟩ := seqOf_at hc2 hw e1
          have e3 := strsOf_at h6 e2
          subst e3
          exact ⟨a, p, ys, hv.str_inv, rfl, h5, Nat.le_trans hz (by decide), q2.here hc2 .str⟩
        · exact q2.elim
  · exact q1.elim
end
end RL

set_option Elab.async false
set_option linter.all false
set_option maxRecDepth 100000
set_option maxHeartbeats 2000000
namespace RL
open PySem PySem.Spec PyProof.Rows L2
variable {K : PySem.W.Frag} {r r' r1 r2 o o' o1 : List Addr} {H H' H1 H2 : Hp} {c c' c1 c2 : Cs} {W : WX} {t : L2.St}
/-! ### any, all of a generator expression: what they are worth -/
def qL (stop : Bool) (tg : Tg) (f : FE) (s0 : Sl) : List D → Cs → Res Bool
  | [], c => .ok (!stop) c
  | d :: ds, c => match tg.set d s0 with
    | none => .bad
    | some s1 => match f s1 c with
      | .ok (.bl b) c1 => if b = stop then .ok stop c1 else qL stop tg f s0 ds c1
      | _ => .bad
def hasTab (c : Cs) (n : Nat) (P : Addr) (q : Str) : Bool := match c[n]? with | some (.tab P' q') => decide (P' = P ∧ q' = q) | _ => false
theorem hasTab_at {n : Nat} {P : Addr} {q : Str} (h : hasTab c n P q = true) : c[n]? = some (.tab P q) := by
  unfold hasTab at h
  split at h
  · rename_i P' q' e
    obtain ⟨rfl, rfl⟩ := of_decide_eq_true h
    exact e
  · cases h
def eQ (stop : Bool) (n : Nat) (P : Addr) (q : Str) (src : FA) (tg : Tg) (f : FE) (vs : List Nat) : FE := fun s c => (src s c).bind fun ds c1 =>
  if hasTab c1 n P q = true then (match qL stop tg f (wipeD s vs) ds c1 with | .ok b c2 => .ok (.bl b) c2 | _ => .bad) else .bad
/-! ### the loops of the built-ins -/
section
variable {prog : Program} {w : World} {A : Around} {I : Addr} {R : Result → Shared → Prop}
theorem loop_all (St : Nat → Shared → Prop) (hstep : ∀ n s, St n s → wpAny (model prog w) A.in1 (pyNext (.ref I)) (fun r s1 => match r with
      | none => R (.ok (.ret (.bool true))) s1
      | some v => ∃ b, v = .bool b ∧ (b = true → ∃ m, m < n ∧ St m s1) ∧ (b = false → R (.ok (.ret (.bool false))) s1)) (fun _ _ => False) s) :
    ∀ n s, St n s → codeAny (model prog w) A (.builtin "all.loop" ⟨[.ref I], []⟩) R s := by
  intro n
  induction n using Nat.strongRecOn with
  | ind n ih =>
    intro s hs
    refine codeAny_builtin PySem.F.entry_all_loop ?_
    rw [Around.under_plainId PySem.F.plain_all_loop _]
    show wpAny _ A.in1 (pyNext (.ref I) >>= _) _ _ s
    refine wpAny_bind (thnF (hstep n s hs) fun r s1 h => ?_)
    cases r with
    | none => exact wpAny_bind (wpAny_rule (wpAny_pure h))
    | some v =>
      obtain ⟨b, rfl, h1, h2⟩ := h
      refine wpAny_bind (wpAny_holding (wpAny_truthy_bool ?_))
      refine wpAny_bind (wpAny_letGo ?_)
      cases b with
      | true =>
        simp only [if_true]
        obtain ⟨m, hm, hst⟩ := h1 rfl
        exact wpAny_pure ⟨plainId_quiet PySem.F.plain_all_loop _, ih m hm _ hst⟩
      | false =>
        simp only [Bool.false_eq_true, if_false]
        exact wpAny_bind (wpAny_rule (wpAny_pure (h2 rfl)))
theorem loop_any (St : Nat → Shared → Prop) (hstep : ∀ n s, St n s → wpAny (model prog w) A.in1 (pyNext (.ref I)) (fun r s1 => match r with
      | none => R (.ok (.ret (.bool false))) s1
      | some v => ∃ b, v = .bool b ∧ (b = false → ∃ m, m < n ∧ St m s1) ∧ (b = true → R (.ok (.ret (.bool true))) s1)) (fun _ _ => False) s) :
    ∀ n s, St n s → codeAny (model prog w) A (.builtin "any.loop" ⟨[.ref I], []⟩) R s := by
  intro n
  induction n using Nat.strongRecOn with
  | ind n ih =>
    intro s hs
    refine codeAny_builtin PySem.F.entry_any_loop ?_
    rw [Around.under_plainId PySem.F.plain_any_loop _]
    show wpAny _ A.in1 (pyNext (.ref I) >>= _) _ _ s
    refine wpAny_bind (thnF (hstep n s hs) fun r s1 h => ?_)
    cases r with
    | none => exact wpAny_bind (wpAny_rule (wpAny_pure h))
    | some v =>
      obtain ⟨b, rfl, h1, h2⟩ := h
      refine wpAny_bind (wpAny_holding (wpAny_truthy_bool ?_))
      refine wpAny_bind (wpAny_letGo ?_)
      cases b with
      | false =>
        simp only [Bool.false_eq_true, if_false]
        obtain ⟨m, hm, hst⟩ := h1 rfl
        exact wpAny_pure ⟨plainId_quiet PySem.F.plain_any_loop _, ih m hm _ hst⟩
      | true =>
        simp only [if_true]
        exact wpAny_bind (wpAny_rule (wpAny_pure (h2 rfl)))
end
/-! ### the generator's frame -/
abbrev gEnv (X : Cx) (scope : Scope) (C : Addr) (code : Value) : Env := genEnv scope (cloFrom X.env.cells scope.names []) C code builtinsNs X.env
theorem over_gen {A : Around} {elt : Expr} {gs : List Comprehension} {scope : Scope} {pos : Pos} {it acc : Value} {env : Env} : A.over (.compLoop (.GeneratorExp elt gs scope pos) 0 it acc env) [] = A.deeper env := by
  first
    | rfl
    | (obtain ⟨hd, d, fr, gs, u⟩ := A; simp [Around.over, Around.deeper, marksOver, frameCount, unitsOf, envsOf, guardsOf, pushEnvs, pushGuards, Code.envs, Code.env?, Code.isFrame, Code.guards, Code.isGuard, Code.weight, Code.frames, Code.isCreation, Code.isCaller, Code.cUnits])
theorem over_gen0 {A : Around} {elt : Expr} {gs : List Comprehension} {scope : Scope} {pos : Pos} {it acc : Value} {env : Env} : A.over (.compStart (.GeneratorExp elt gs scope pos) 0 it acc env) [] = A.deeper env := by
  first
    | rfl
    | (obtain ⟨hd, d, fr, gs, u⟩ := A; simp [Around.over, Around.deeper, marksOver, frameCount, unitsOf, envsOf, guardsOf, pushEnvs, pushGuards, Code.envs, Code.env?, Code.isFrame, Code.guards, Code.isGuard, Code.weight, Code.frames, Code.isCreation, Code.isCaller, Code.cUnits])
def genCx (X : Cx) (s : Shared) (H : Hp) (scope : Scope) (C : Addr) (code : Value) (fp : List Addr) : Cx where
  prog := X.prog
  w := X.w
  K := X.K
  mg := X.mg
  base := X.base
  A := X.A.in1.in1.deeper (gEnv X scope C code)
  N := X.N
  s_0 := s
  H_0 := H
  env := gEnv X scope C code
  outer := X.stack
  stack := gEnv X scope C code :: X.stack
  ex := fp
  fn := fun _ => false
  calm := true
  pn := []
  xe := fun _ _ => False
structure GenOk (N : List Str) (sc scope : Scope) (own : List (Str × Nat)) : Prop where
  blk : BlkOk N sc scope own
  co : scope.isCoroutine = false
  nocell : ∀ y ∈ scope.names, y.2 ≠ .cell
  dot : scope.names.lookup (".0" : Str) = some .local
def genC (N : List Str) (sc scope : Scope) (own : List (Str × Nat)) : Bool := blkC N sc scope own && !scope.isCoroutine && scope.names.all (fun y => decide (y.2 ≠ .cell)) && decide (scope.names.lookup (".0" : Str) = some .local)
theorem genOk_by {N : List Str} {sc scope : Scope} {own : List (Str × Nat)} (h : genC N sc scope own = true) : GenOk N sc scope own := by
  unfold genC at h
  simp only [Bool.and_eq_true, Bool.not_eq_true', List.all_eq_true, decide_eq_true_eq] at h
  obtain ⟨⟨⟨h1, h2⟩, h3⟩, h4⟩ := h
  exact ⟨blkOk_by h1, h2, h3, h4⟩
section
variable {X : Cx} {pins : List (Addr × Obj)} {σ : L2.St} {s s' : Shared}
theorem GenOk.has {scope : Scope} {own : List (Str × Nat)} (ok : GenOk X.N X.env.scope scope own) (xo : X.Ok) : ∀ y ∈ scope.names, y.2 = .free → ∃ c, X.env.cells.lookup y.1 = some c := fun y hy e => by
  rcases ok.blk.free y hy e with k | k
  · exact xo.has _ (.inl k)
  · exact xo.has _ (.inr k)
theorem gen_start {scope : Scope} {own : List (Str × Nat)} {fp : List Addr} {C : Addr} {code : Value} {m : Str → Option Value} {Pg : List (Addr × Obj)} (I : Inv X pins σ H s) (ok : GenOk X.N X.env.scope scope own) (hN : X.N.Nodup) (hd : X.A.handled = none) (hC : C = s.heap.objs.size)
    (hfp : ∀ b ∈ fp, FpOk X pins H b ∧ b < s.heap.objs.size) (hos : s'.os = s.os) (hb : AllBare s'.gens) (kp : ∀ b o, s.heap.get? b = some o → s'.heap.get? b = some o) (hns : s'.heap.Ns C m)
    (hp : ∀ p ∈ Pg, s'.heap.get? p.1 = some p.2 ∧ H p.1 = none ∧ p.1 ≠ C ∧ p.1 ∉ frs X.stack ∧ ∀ v, p.2.data ≠ .cell v) : Inv (genCx X s H scope C code fp) Pg (wipe σ (own.map (·.2))) H s' := by
  have hfree := ok.has I.ok
  have cm : ∀ {y c}, (cloFrom X.env.cells scope.names []).lookup y = some c → X.env.cells.lookup y = some c := fun {y c} e => by
    rcases cloFrom_mem (PySem.mem_of_lookup e) with hm | ⟨h1, h2⟩
    · cases hm
    · obtain ⟨c1, hc⟩ := hfree _ h1 rfl
      have hc : X.env.cells.lookup y = some c1 := hc
      have e2 : c = c1 := by
        rw [h2, hc] <;> rfl
      rw [e2]
      exact hc
  have look : ∀ {y}, scope.names.lookup y = some .free → ∃ c, (cloFrom X.env.cells scope.names []).lookup y = some c := fun {y} hl => by
    have hy : (y, NameKind.free) ∈ scope.names := PySem.mem_of_lookup hl
    exact mem_lookup (cloFrom_has (cells := X.env.cells) (acc := []) hy)
  refine ⟨⟨I.ok.mod, ok.blk.kind, I.ok.glob, rfl, ?_, fun y z c e1 e2 => I.ok.inj y z c (cm e1) (cm e2), fun y hy => ?_, fun y c z _ => ?_, fun _ => hd, ?_, .inr ⟨rfl, rfl⟩, fun b hbf => ⟨?_, fun y c e z => ?_⟩, I.bs, Nat.le_trans I.ok.bsz I.sz, fun b ob e hbf => ?_, fun b hbf z => ?_, I.stack, I.stkFree⟩,
    hos, hb, Un.kept kp, ⟨m, hns, fun i y v e1 e2 e3 => ?_⟩, fun y c e => ?_, ?_, fun y c e => I.freeC y c (cm e), fun p hpp => ?_, I.hok.kept kp, by rw [wipe_length]; exact I.len⟩
  · show s.heap.objs.size ≤ C
    rw [hC]; exact Nat.le_refl _
  · have hy : scope.names.lookup y = some .cell ∨ scope.names.lookup y = some .free := hy
    rcases hy with hy | hy
    · exact absurd rfl (ok.nocell _ (PySem.mem_of_lookup hy))
    · exact look hy
  · have z : false = true := z
    cases z
  · exact Around.frames_deeper I.ok.frames
  · show b ≠ C
    rw [hC]; exact Nat.ne_of_lt (hfp b hbf).2
  · exact (hfp b hbf).1.2.2.2.2.1 y c (cm e) z
  · rcases (hfp b hbf).1.2.2.2.1 with z | z
    · exact I.ok.noex b ob e z
    · exact absurd (Nat.lt_of_lt_of_le (Heap.lt_size e) (Nat.le_trans I.ok.bsz z)) (Nat.lt_irrefl _)
  · rcases List.mem_cons.mp (I.stkSub b z) with z | z
    · exact (hfp b hbf).1.2.1 z
    · exact (hfp b hbf).1.2.2.1 z
  · obtain ⟨e2, hne⟩ := wipe_some e2
    have no : ¬ scope.names.lookup y = some .local := fun k => by
      rcases ok.blk.own _ (PySem.mem_of_lookup k) (.inl rfl) with e' | e'
      · obtain ⟨p, hp, hpy⟩ := List.mem_map.mp e'
        have e3 := ok.blk.ix p hp
        have : p.1 = y := hpy
        rw [this] at e3
        exact hne (List.mem_map.mpr ⟨p, hp, nodup_ix hN e3 e1⟩)
      · exact e' (List.mem_of_getElem? e1)
    have e3 : Vis scope y := e3
    rcases e3 with k | k | k
    · exact absurd k no
    · exact absurd rfl (ok.nocell _ (PySem.mem_of_lookup k))
    · obtain ⟨m', hn, hl⟩ := I.loc
      have hvis : Vis X.env.scope y := (ok.blk.free _ (PySem.mem_of_lookup k) rfl).elim (fun k => .inr (.inl k)) (fun k => .inr (.inr k))
      obtain ⟨w', rr, q⟩ := hl i y v e1 e2 hvis
      obtain ⟨c2, h2⟩ := look k
      refine ⟨w', rr, .inr ⟨.inr k, c2, h2, ?_⟩⟩
      have c1 := cm h2
      rcases q with ⟨k', _⟩ | ⟨_, c3, e', z⟩
      · have k' : X.env.scope.names.lookup y = some .local := k'
        rcases ok.blk.free _ (PySem.mem_of_lookup k) rfl with k2 | k2 <;> rw [show X.env.scope.names.lookup y = _ from k2] at k' <;> cases k'
      · rw [c1] at e'
        cases e'
        exact z.keeps kp
  · obtain ⟨w', z⟩ := I.cell y c (cm e)
    exact ⟨w', z.keeps kp⟩
  · show H C = none
    rw [hC]; exact I.hok.fresh (Nat.le_refl _)
  · exact hp p ((List.mem_append.mp hpp).elim (fun z => absurd (show p ∈ ([] : List (Addr × Obj)) from z) (by simp)) id)
end
/-! ### a table changes -/
theorem upd_comm {p q : Addr} {u v : HO} (h : p ≠ q) : upd (upd H p u) q v = upd (upd H q v) p u := by
  funext b
  by_cases h1 : b = q
  · subst h1
    rw [upd_same, upd_ne (Ne.symm h), upd_same]
  · by_cases h2 : b = p
    · subst h2
      rw [upd_ne h1, upd_same, upd_same]
    · rw [upd_ne h1, upd_ne h2, upd_ne h2, upd_ne h1]
theorem set_id {α : Type} {l : List α} {n : Nat} {x : α} (h : l[n]? = some x) : l.set n x = l := by
  apply List.ext_getElem?
  intro i
  by_cases hi : i = n
  · subst hi
    rw [h, List.getElem?_set_self (List.getElem?_eq_some_iff.mp h).1]
  · rw [List.getElem?_set_ne (Ne.symm hi)]
theorem Cells.tabled (h : Cells K r o c H) {n : Nat} {P cn : Addr} {q : Str} {ps ps' : Array Value} (hc : c[n]? = some (.tab P q)) (hP : H P = some (.tbl ps)) (hn : H cn = none) (ht : TriplesOk ps'.toList)
    (hcode : ∀ pos cv, codeAmong pos ps'.toList = some cv → codeAmong pos ps.toList = some cv ∨ cv = .ref cn) :
    Cells K r o c (upd (upd H P (.tbl ps')) cn (LamX.CodeO cn q)) ∧ Step r H r (upd (upd H P (.tbl ps')) cn (LamX.CodeO cn q)) := by
  have hne : P ≠ cn := fun z => by rw [z, hn] at hP; cases hP
  rw [upd_comm hne]
  obtain ⟨a, ha, rfl, qs, e1, e2, e3⟩ := h.get hc
  rw [hP] at e1
  cases e1
  have h1 := h.new (u := LamX.CodeO cn q) hn
  have s1 : Step r H r (upd H cn (LamX.CodeO cn q)) := Step.new hn
  have s2 : Step r (upd H cn (LamX.CodeO cn q)) r (upd (upd H cn (LamX.CodeO cn q)) a (.tbl ps')) := Step.mut (List.mem_of_getElem? ha)
  have h2 := h1.setX (x := .tab a q) (u := .tbl ps') ha ⟨rfl, ps', upd_same, ht, fun pos cv hcv => by
    rcases hcode pos cv hcv with z | z
    · obtain ⟨c0, q1, q2, q3, q4⟩ := e3 pos cv z
      exact ⟨c0, q1, by rw [upd_ne (fun z => q3 (by rw [z]; exact List.mem_of_getElem? ha)), upd_ne (ne_of_none q2 hn)]; exact q2, q3, q4⟩
    · exact ⟨cn, z, by rw [upd_ne (Ne.symm hne), upd_same], h.fresh hn, h.freshO hn⟩⟩
  rw [set_id hc] at h2
  exact ⟨h2, s1.trans s2⟩
end RL

set_option Elab.async false
set_option linter.all false
set_option maxRecDepth 100000
set_option maxHeartbeats 4000000
namespace RL
open PySem PySem.Spec PyProof.Rows L2
section
variable {X : Cx} {pins Pg : List (Addr × Obj)} {σ : L2.St} {H3 : Hp} {s3 : Shared} {fp : List Addr} {tn : Nat → Heap → Prop} {o r3 : List Addr} {stop : Bool} {tg : Tg} {f : FE} {s0 : Sl} {ds : List D} {bF : Bool} {cF : Cs} {scope : Scope} {C : Addr} {code : Value} {vs : List Nat} {J : It} {it : Addr} {elt tge iter : Expr} {pos : Pos}
/-- ahead of the turn i -/
def StG (X : Cx) (s3 : Shared) (H3 : Hp) (scope : Scope) (C : Addr) (code : Value) (fp : List Addr) (Pg : List (Addr × Obj)) (σw : L2.St) (tn : Heap → Prop) (o r3 : List Addr) (Z : Cs → Prop) (s : Shared) : Prop :=
  ∃ Hi ri ci, Inv (genCx X s3 H3 scope C code fp) Pg σw Hi s ∧ tn s.heap ∧ (∀ b ∈ fp, Hi b = none) ∧ Step r3 H3 ri Hi ∧ Cells X.K ri o ci Hi ∧ Z ci
abbrev ProtG (ST : (Heap → Prop) → (Cs → Prop) → Shared → Prop) (tn : Nat → Heap → Prop) (stop : Bool) (tg : Tg) (f : FE) (s0 : Sl) (ds : List D) (bF : Bool) (cF : Cs) : Protocol := fun n s0' v s kap =>
  ∃ b i, v = .bool b ∧ i < ds.length ∧ n = ds.length - (i + 1) + 1 ∧ ST (tn (i + 1)) (fun ci => if b = stop then bF = stop ∧ cF = ci else qL stop tg f s0 (ds.drop (i + 1)) ci = .ok bF cF) s ∧
    (b ≠ stop → ∀ s'' : Shared, s''.heap = s.heap → s''.os = s.os → AllBare s''.gens → kap (.send .none) s'')
abbrev EndG (ST : (Heap → Prop) → (Cs → Prop) → Shared → Prop) (stop : Bool) (ds : List D) (bF : Bool) (cF : Cs) : GenEnd := fun _ _ r s1 => r = .ok .next ∧ ST (fun _ => True) (fun ci => bF = !stop ∧ cF = ci) s1
theorem StG.gens {T : Heap → Prop} {Z : Cs → Prop} {σw : L2.St} {s s' : Shared} (h : StG X s3 H3 scope C code fp Pg σw T o r3 Z s) (e1 : s'.heap = s.heap) (e2 : s'.os = s.os) (hb : AllBare s'.gens) : StG X s3 H3 scope C code fp Pg σw T o r3 Z s' := by
  obtain ⟨Hi, ri, ci, I, h2, h3, h4, h5, h6⟩ := h
  refine ⟨Hi, ri, ci, ?_, by rw [e1]; exact h2, h3, h4, h5, h6⟩
  exact ⟨I.ok, e2.trans I.os, hb, by rw [e1]; exact I.base, by rw [e1]; exact I.loc, by rw [e1]; exact I.cell, I.free, I.freeC, by rw [e1]; exact I.pin, by rw [e1]; exact I.hok, I.len⟩
theorem seg_q (hN : X.N.Nodup) (hT : Turn X.prog X.w X.K tge J fp it tn) (hJ : GivesL X.K r3 o H3 ds J) (hs0 : SlOk X.K r3 o H3 s0 (wipe σ vs)) (ho : tg.own vs = true) (hco : scope.isCoroutine = false) (hPg : ∀ p ∈ Pg, p.1 ∉ fp)
    (hg : PG (genCx X s3 H3 scope C code fp) tge (tg.g X.K)) (he : RE (genCx X s3 H3 scope C code fp) W0 elt f) :
    ∀ (k i : Nat) (s₀ s : Shared), ds.length - i = k → i ≤ ds.length → StG X s3 H3 scope C code fp Pg (wipe σ vs) (tn i) o r3 (fun ci => qL stop tg f s0 (ds.drop i) ci = .ok bF cF) s →
      Seg (model X.prog X.w) X.A.in1.in1 (EndG (StG X s3 H3 scope C code fp Pg (wipe σ vs) · o r3) stop ds bF cF) (ProtG (StG X s3 H3 scope C code fp Pg (wipe σ vs) · o r3) tn stop tg f s0 ds bF cF) (k + 1) s₀
        (.compLoop (.GeneratorExp elt [⟨tge, iter, [], 0⟩] scope pos) 0 (.ref it) .none (gEnv X scope C code))
        ((model X.prog X.w).den (.compLoop (.GeneratorExp elt [⟨tge, iter, [], 0⟩] scope pos) 0 (.ref it) .none (gEnv X scope C code))) [] s := by
  have hA : X.A.in1.in1.over (.compLoop (.GeneratorExp elt [⟨tge, iter, [], 0⟩] scope pos) 0 (.ref it) .none (gEnv X scope C code)) [] = (genCx X s3 H3 scope C code fp).A := over_gen
  have stat : ∀ {pi : List (Addr × Obj)} {σ' : L2.St} {H' : Hp} {s' : Shared}, Inv (genCx X s3 H3 scope C code fp) pi σ' H' s' → (∀ p ∈ pi, p.1 ∉ fp) → (∀ b ∈ fp, H' b = none) → ∀ b ∈ fp, FpOk (genCx X s3 H3 scope C code fp) pi H' b := fun {pi σ' H' s'} I' hpi hn b hb =>
    ⟨hn b hb, (I'.ok.exf b hb).1, I'.ok.exfs b hb, .inl hb, fun x c e => (I'.ok.exf b hb).2 x c e, fun p hp z => hpi p ((List.mem_append.mp hp).elim (fun z => absurd (show p ∈ ([] : List (Addr × Obj)) from z) (by simp)) id) (by rw [z]; exact hb)⟩
  have lat : ∀ {ri : List Addr} {Hi : Hp}, Step r3 H3 ri Hi → Later r3 o H3 ri o Hi := fun st => st.later
  intro k
  induction k with
  | zero =>
    intro i s₀ s hk hi hst
    have hin : i = ds.length := by omega
    subst hin
    obtain ⟨Hi, ri, ci, I, ht, hn, st, hc, hz⟩ := hst
    show Seg _ _ _ _ _ s₀ _ ((compTurn (.GeneratorExp elt [⟨tge, iter, [], 0⟩] scope pos) 0 (.ref it) .none (gEnv X scope C code)).onRaise (leaving (gEnv X scope C code))) [] s
    rw [compTurn_gen, Sem.onRaise_eq_wrap]
    refine seg_bind_wrap (wpAny_standAt ?_)
    refine seg_bind_wrap ?_
    rw [hA]
    have hstop := (hJ ri o Hi ci (lat st) hc ds.length).2 (Nat.le_refl _)
    refine thnF (hT.done (genCx X s3 H3 scope C code fp) rfl rfl rfl rfl ds.length Pg s _ Hi (fun _ _ => False) I (stat I hPg hn) ht hstop) fun r s6 hr => ?_
    obtain ⟨rfl, I6⟩ := hr
    rw [List.drop_length] at hz
    unfold qL at hz
    injection hz with hz1 hz2
    exact seg_end (.ok .next) ⟨rfl, Hi, ri, ci, I6, trivial, hn, st, hc, hz1.symm, hz2.symm⟩
  | succ k ih =>
    intro i s₀ s hk hi hst
    have hlt : i < ds.length := by omega
    obtain ⟨Hi, ri, ci, I, ht, hn, st, hc, hz⟩ := hst
    show Seg _ _ _ _ _ s₀ _ ((compTurn (.GeneratorExp elt [⟨tge, iter, [], 0⟩] scope pos) 0 (.ref it) .none (gEnv X scope C code)).onRaise (leaving (gEnv X scope C code))) [] s
    rw [compTurn_gen, Sem.onRaise_eq_wrap]
    refine seg_bind_wrap (wpAny_standAt ?_)
    refine seg_bind_wrap ?_
    rw [hA]
    have ed : ds[i]? = some ds[i] := List.getElem?_eq_getElem hlt
    obtain ⟨go, yl⟩ := (hJ ri o Hi ci (lat st) hc i).1 _ ed
    rw [List.drop_eq_getElem_cons hlt] at hz
    refine thnF (hT.item (genCx X s3 H3 scope C code fp) rfl rfl rfl rfl i Pg s _ Hi (fun _ _ => False) I (stat I hPg hn) ht go) fun r s6 hr => ?_
    obtain ⟨u, rfl, h6⟩ := hr
    refine seg_bind_wrap ?_
    rw [hA]
    refine thnF h6 fun _ s7 h7 => ?_
    obtain ⟨x, H7, I7, rx, yx, ht7, hn7⟩ := h7
    obtain ⟨k7, hx⟩ := yl x H7 yx
    have st7 : Step ri Hi ri H7 := Step.grow k7
    have hc7 := hc.grow k7
    have I7' := I7.pinned (stat I7 hPg hn7) (hT.obj _ _ ht7)
    unfold qL at hz
    cases es : tg.set ds[i] s0 with
    | none => simp only [es] at hz; cases hz
    | some s1 =>
      simp only [es] at hz
      have hs7 : SlOk X.K ri o H7 s0 (wipe σ vs) := hs0.later ((st.trans st7).later)
      refine seg_bind_wrap ?_
      rw [hA]
      refine thnF (hg.run _ s7 _ H7 x u (fun σ8 H8 => H8 = H7 ∧ SlOk X.K ri o H7 s1 σ8 ∧ wipe σ8 vs = wipe σ vs) I7' rx (Tg.run (vs := vs) (t0 := wipe σ vs) ho hx hs7 (wipe_wipe _ _) es fun t' ht' hw' => ⟨rfl, ht', hw'⟩)) fun _ s8 h8 => ?_
      obtain ⟨σ8, H8, I8, rfl, hs8, hw8⟩ := h8
      refine seg_bind_wrap ?_
      rw [hA]
      refine thnF ((pts_nil (X := genCx X s3 H3 scope C code fp)).run _ s8 σ8 H8 (fun b H9 => b = true ∧ H9 = H8) I8 ⟨rfl, rfl⟩) fun b s9 h9 => ?_
      obtain ⟨H9, I9, rfl, rfl⟩ := h9
      simp only [if_true]
      have hy : ∀ v, yieldOut (gEnv X scope C code) v = yieldValue v := fun v => by
        have e : (gEnv X scope C code).scope.isCoroutine = false := hco
        simp only [yieldOut, e, Bool.false_eq_true, if_false]
      simp only [hy]
      rw [Sem.bind_eq_wrap', Sem.bind_eq_wrap', Sem.wrap_wrap, Sem.wrap_wrap]
      refine seg_wrap ?_
      rw [hA]
      obtain ⟨te, he1, he2⟩ := he
      cases ef : f s1 ci with
      | bad => simp only [ef] at hz; cases hz
      | err x c5 => simp only [ef] at hz; cases hz
      | ok y c5 =>
        cases y with
        | bl b =>
          simp only [ef] at hz
          refine thnF (he1.run _ s9 σ8 H9 (fun y H10 => y = .bl b ∧ ∃ r5, Step ri H9 r5 H10 ∧ Cells X.K r5 o c5 H10) I9 (he2 ri o ci s1 H9 σ8 _ hc7 hs8 (by rw [ef]; exact fun r' H' v st' hc' hv => ⟨hv.bl_inv, r', st', hc'⟩))) fun y s10 h10 => ?_
          obtain ⟨yv, H10, I10, ry, rfl, r5, st10, hc10⟩ := h10
          obtain rfl : y = Value.bool b := ry
          have pin' : ∀ b ∈ fp, ∀ o, s7.heap.get? b = some o → s10.heap.get? b = some o ∧ H10 b = none := fun b hb o e =>
            let z := I10.pin (b, o) (List.mem_append_right _ (List.mem_append_right _ (mem_pinsAt hb e)))
            ⟨z.1, z.2.1⟩
          have I11 : Inv (genCx X s3 H3 scope C code fp) Pg (wipe σ vs) H10 s10 := (I10.unpinned (pins := Pg)).weak (by rw [← hw8, wipe_length]) fun j v e => by
            rw [← hw8] at e
            exact (wipe_some e).1
          have stF : ∀ Z : Cs → Prop, Z c5 → StG X s3 H3 scope C code fp Pg (wipe σ vs) (tn (i + 1)) o r3 Z s10 := fun Z hZ => ⟨H10, r5, c5, I11, hT.keep _ _ _ ht7 fun b hb o e => (pin' b hb o e).1, fun b hb => by
            obtain ⟨o, e, _⟩ := hT.obj _ _ ht7 b hb
            exact (pin' b hb o e).2, (st.trans st7).trans st10, hc10, hZ⟩
          refine seg_at (seg_yield rfl rfl rfl ⟨b, i, rfl, hlt, by omega, stF _ ?_, fun hb s'' e1 e2 e3 => ?_⟩)
          · by_cases hb : b = stop
            · rw [if_pos hb] at hz ⊢
              injection hz with z1 z2
              exact ⟨z1.symm, z2.symm⟩
            · rw [if_neg hb] at hz ⊢
              exact hz
          · rw [if_neg hb] at hz
            exact seg_again rfl (ih (i + 1) s'' s'' (by omega) hlt ((stF _ hz).gens e1 e2 e3))
        | _ => simp only [ef] at hz; cases hz
theorem seg_q0 (hT : Turn X.prog X.w X.K tge J fp it tn) {R : GenEnd} {Y : Protocol} {n : Nat} {s₀ s : Shared} (ht : tn 0 s.heap)
    (loop : Seg (model X.prog X.w) X.A.in1.in1 R Y n s₀ (.compLoop (.GeneratorExp elt [⟨tge, iter, [], 0⟩] scope pos) 0 (.ref it) .none (gEnv X scope C code))
        ((model X.prog X.w).den (.compLoop (.GeneratorExp elt [⟨tge, iter, [], 0⟩] scope pos) 0 (.ref it) .none (gEnv X scope C code))) [] s) :
    Seg (model X.prog X.w) X.A.in1.in1 R Y n s₀ (.compStart (.GeneratorExp elt [⟨tge, iter, [], 0⟩] scope pos) 0 (.ref it) .none (gEnv X scope C code))
        ((model X.prog X.w).den (.compStart (.GeneratorExp elt [⟨tge, iter, [], 0⟩] scope pos) 0 (.ref it) .none (gEnv X scope C code))) [] s := by
  show Seg _ _ _ _ _ s₀ _ ((compStart (.GeneratorExp elt [⟨tge, iter, [], 0⟩] scope pos) 0 (.ref it) .none (gEnv X scope C code)).onRaise (leaving (gEnv X scope C code))) [] s
  unfold compStart
  rw [Sem.onRaise_eq_wrap]
  show Seg _ _ _ _ _ s₀ _ ((ask >>= _).wrap _ _ _ _) [] s
  refine seg_bind_wrap (wpAny_askSetting ?_)
  split
  · exact seg_again rfl loop
  · first
      | exact seg_bind_wrap (wpAny_rule (seg_bind_wrap (wpAny_standAt (seg_bind_wrap (hT.self _ 0 s _ _ ht (seg_again rfl loop))))))
      | (refine seg_bind_wrap (wpAny_rule ?_); show Seg _ _ _ _ _ s₀ _ ((standAt iter.pos >>= _).wrap _ _ _ _) [] s; exact seg_bind_wrap (wpAny_standAt (seg_bind_wrap (hT.self _ 0 s _ _ ht (seg_again rfl loop)))))
theorem StG.grow {T : Heap → Prop} {Z : Cs → Prop} {σw : L2.St} {s s' : Shared} (h : StG X s3 H3 scope C code fp Pg σw T o r3 Z s) (k : ∀ b u, s.heap.get? b = some u → s'.heap.get? b = some u) (e2 : s'.os = s.os) (hb : AllBare s'.gens) : StG X s3 H3 scope C code fp Pg σw (fun _ => True) o r3 Z s' := by
  obtain ⟨Hi, ri, ci, I, h2, h3, h4, h5, h6⟩ := h
  have J := I.kept (t' := s'.toks) k
  refine ⟨Hi, ri, ci, ?_, trivial, h3, h4, h5, h6⟩
  exact ⟨J.ok, e2.trans I.os, hb, J.base, J.loc, J.cell, J.free, J.freeC, J.pin, J.hok, J.len⟩
/-- the generator g (its object at a) ahead of a turn -/
def GSt (X : Cx) (s3 : Shared) (H3 : Hp) (scope : Scope) (C : Addr) (code : Value) (fp : List Addr) (Pg : List (Addr × Obj)) (σw : L2.St) (tn : Nat → Heap → Prop) (o r3 : List Addr) (stop : Bool) (tg : Tg) (f : FE) (s0 : Sl) (ds : List D) (bF : Bool) (cF : Cs) (g : Nat) (n : Nat) (s : Shared) : Prop :=
  ∃ i gs, n = ds.length - i + 1 ∧ i ≤ ds.length ∧ StG X s3 H3 scope C code fp Pg σw (tn i) o r3 (fun ci => qL stop tg f s0 (ds.drop i) ci = .ok bF cF) s ∧ s.gens[g]? = some gs ∧
    ∀ s'' : Shared, s''.heap = s.heap → s''.os = s.os → AllBare s''.gens → gs.Goes (model X.prog X.w) X.A.in1.in1 (EndG (StG X s3 H3 scope C code fp Pg σw · o r3) stop ds bF cF) (ProtG (StG X s3 H3 scope C code fp Pg σw · o r3) tn stop tg f s0 ds bF cF) n (.send .none) s''
theorem next_q {k g n : Nat} {a : Addr} {s : Shared} {σw : L2.St} (hr : Room k X.A) (hgen : ∀ h : Heap, (∀ p ∈ Pg, h.get? p.1 = some p.2) → h.IsGen a g)
    (h : GSt X s3 H3 scope C code fp Pg σw tn o r3 stop tg f s0 ds bF cF g n s) :
    wpAny (model X.prog X.w) X.A.in1 (pyNext (.ref a)) (fun r s1 => match r with
      | none => StG X s3 H3 scope C code fp Pg σw (fun _ => True) o r3 (fun ci => bF = !stop ∧ cF = ci) s1
      | some v => ∃ b, v = .bool b ∧ (b ≠ stop → ∃ m, m < n ∧ GSt X s3 H3 scope C code fp Pg σw tn o r3 stop tg f s0 ds bF cF g m s1) ∧ (b = stop → StG X s3 H3 scope C code fp Pg σw (fun _ => True) o r3 (fun ci => bF = stop ∧ cF = ci) s1)) (fun _ _ => False) s := by
  obtain ⟨i, gs, rfl, hi, hst, hgs, hgo⟩ := h
  obtain ⟨Hi, ri, ci, I, h2, h3, h4, h5, h6⟩ := id hst
  have hg := hgen s.heap fun p hp => (I.pin p (List.mem_append_right _ hp)).1
  have hlt : g < s.gens.size := by
    rcases Nat.lt_or_ge g s.gens.size with h' | h'
    · exact h'
    · rw [Array.getElem?_eq_none h'] at hgs; cases hgs
  refine GenW.wpAny_gsz (Nat.le_refl _) (wpAny_pyNext_genexpQ (A := X.A.in1) (show X.A.in1.handled = none from hr.hd) I.nolimit (show X.A.in1.depth < recursionLimit from hr.depth) hg hgs (hgo _ rfl rfl (L2.allBare_setGen I.bare rfl)) (fun v s₁ gs' hb hv => ?_) (fun s₁ hp h' hk => ?_))
  · intro hsz
    obtain ⟨b, j, rfl, hj, hn, hS, hkap⟩ := hv
    have hsz' : s.gens.size ≤ s₁.gens.size := by
      have e : (s₁.setGen g gs').gens.size = s₁.gens.size := GenW.setGen_size ..
      rw [e] at hsz; exact hsz
    have bare1 : AllBare (s₁.setGen g gs').gens := by
      obtain ⟨_, _, _, I1, _⟩ := id hS
      exact L2.allBare_setGen I1.bare hb
    generalize hm : ds.length - i = m at hkap hn ⊢
    have hn : m = ds.length - (j + 1) + 1 := hn
    refine ⟨b, rfl, fun hbs => ⟨m, by omega, j + 1, gs', by omega, hj, ?_, ?_, fun s'' e1 e2 e3 => hkap hbs s'' e1 e2 e3⟩, fun hbs => ?_⟩
    · have q := hS.gens (s' := s₁.setGen g gs') rfl rfl bare1
      obtain ⟨Hj, rj, cj, Ij, q2, q3, q4, q5, q6⟩ := q
      rw [if_neg hbs] at q6
      exact ⟨Hj, rj, cj, Ij, q2, q3, q4, q5, q6⟩
    · exact setGen_at (Nat.lt_of_lt_of_le hlt hsz')
    · have q := hS.gens (s' := s₁.setGen g gs') rfl rfl bare1
      obtain ⟨Hj, rj, cj, Ij, q2, q3, q4, q5, q6⟩ := q
      rw [if_pos hbs] at q6
      exact ⟨Hj, rj, cj, Ij, trivial, q3, q4, q5, q6⟩
  · intro _
    have hS := hp
    obtain ⟨_, _, _, I1, _⟩ := id hS
    exact hS.grow hk rfl (L2.allBare_setGen I1.bare rfl)
end
end RL

set_option Elab.async false
set_option linter.all false
set_option maxRecDepth 100000
set_option maxHeartbeats 4000000
namespace RL
open PySem PySem.Spec PyProof.Rows L2
/-- what the call of any / all on a generator asks -/
def QCall (prog : Program) (w : World) (nm : String) (stop : Bool) : Prop := ∀ (A : Around) (a : Addr) (g : Nat) (s : Shared) (St : Nat → Shared → Prop) (n : Nat) (Q : Value → Shared → Prop) (E : Value → Shared → Prop) (End : Bool → Shared → Prop),
  s.heap.IsGen a g → St n s → (∀ n s, St n s → wpAny (model prog w) A.in1 (pyNext (.ref a)) (fun r s1 => match r with
      | none => End (!stop) s1
      | some v => ∃ b, v = .bool b ∧ (b ≠ stop → ∃ m, m < n ∧ St m s1) ∧ (b = stop → End stop s1)) (fun _ _ => False) s) → (∀ b s1, End b s1 → Q (.bool b) s1) →
  wpAny (model prog w) A (call (.builtin nm) [.ref a]) Q E s
theorem qcall_all {prog : Program} {w : World} : QCall prog w "all" false := fun A a g s St n Q E End hg hs hstep hQ => by
  refine call_function_tree PySem.F.kind_all PySem.F.plain_all PySem.F.entry_all (PySem.F.args_all1 _) ?_
  unfold Builtin.«all»
  refine wpAny_bind (m := oneArg "all" _) (wpAny_pure ?_)
  refine wpAny_bind (wpAny_pyIter_gen hg ?_)
  refine wpAny_pure ⟨plainId_quiet PySem.F.plain_all_loop _, loop_all St (fun n s h => wpAny_mono (hstep n s h) (fun r s1 hr => ?_) fun _ _ z => z) n s hs⟩
  cases r with
  | none => exact hQ _ _ hr
  | some v =>
    obtain ⟨b, e, h1, h2⟩ := hr
    exact ⟨b, e, fun hb => h1 (by rw [hb]; decide), fun hb => hQ _ _ (h2 hb)⟩
theorem qcall_any {prog : Program} {w : World} : QCall prog w "any" true := fun A a g s St n Q E End hg hs hstep hQ => by
  refine call_function_tree PySem.F.kind_any PySem.F.plain_any PySem.F.entry_any (PySem.F.args_any1 _) ?_
  unfold Builtin.«any»
  refine wpAny_bind (m := oneArg "any" _) (wpAny_pure ?_)
  refine wpAny_bind (wpAny_pyIter_gen hg ?_)
  refine wpAny_pure ⟨plainId_quiet PySem.F.plain_any_loop _, loop_any St (fun n s h => wpAny_mono (hstep n s h) (fun r s1 hr => ?_) fun _ _ z => z) n s hs⟩
  cases r with
  | none => exact hQ _ _ hr
  | some v =>
    obtain ⟨b, e, h1, h2⟩ := hr
    exact ⟨b, e, fun hb => h1 (by rw [hb]; decide), fun hb => hQ _ _ (h2 hb)⟩
section
variable {X : Cx} {W : WX} {stop : Bool} {tg : Tg} {f : FE} {fa : FA} {elt tge iter : Expr} {scope : Scope} {own : List (Str × Nat)} {p pos gpos : Pos} {nm : Str} {id : String} {n k : Nat} {P cc : Addr} {q : Str}
theorem re_q (hcall : QCall X.prog X.w id stop) (hr : Room k X.A) (hc : X.calm = true) (hN : X.N.Nodup) (hg : Gl X nm) (hm : X.mg nm = none) (hv : bootBuiltins nm = some (.builtin id)) (hi : RI X W tge iter fa) (ok : GenOk X.N X.env.scope scope own) (ho : tg.own (own.map (·.2)) = true)
    (TB : LamX.TabB X.base X.mg cc P) (hcode : X.env.code = .ref cc) (hqn : X.env.qual ++ "<genexpr>" = q)
    (hgt : ∀ (s : Shared) (H : Hp) (C : Addr) (code : Value) (fp : List Addr), PG (genCx X s H scope C code fp) tge (tg.g X.K)) (he : ∀ (s : Shared) (H : Hp) (C : Addr) (code : Value) (fp : List Addr), RE (genCx X s H scope C code fp) W0 elt f)
    (hs : ∀ v, genFold iter X.env v = pure v := by intro _; rfl) (hn : nm ≠ "__name__" := by decide) (hdb : (nm == ("__debug__" : Str)) = false := by decide)
    (he0 : starEach [.GeneratorExp elt [⟨tge, iter, [], 0⟩] scope gpos] X.env = (false, eval (.GeneratorExp elt [⟨tge, iter, [], 0⟩] scope gpos) X.env) :: starEach [] X.env := by rfl) :
    RE X W (.Call (.Name nm p) [.GeneratorExp elt [⟨tge, iter, [], 0⟩] scope gpos] [] pos) (eQ stop n P q fa tg f (own.map (·.2))) := by
  refine ⟨tOfE X.K W (eQ stop n P q fa tg f (own.map (·.2))), ⟨fun pins s σ H Q I h => ?_⟩, snd_ofE⟩
  obtain ⟨r, o, c, sl, hcl, hsl, hq⟩ := h
  obtain ⟨wi, h1, h2⟩ := hi
  refine wpAny_Call_Name_kw (ld_blt I hg hm hv ?_ hn hdb)
  refine PyProof.Rows.callWith_builtin1 ?_ he0 (by rfl)
  rw [he0]
  show wpAny _ _ (spliced ((false, eval (.GeneratorExp elt [⟨tge, iter, [], 0⟩] scope gpos) X.env) :: backTo pos (starEach [] X.env))) _ _ s
  refine Calls.spliced_cons ?_
  refine wpAny_GeneratorExp_make ok.co (closure_ok (ok.has I.ok)) ok.nocell ok.dot ok.blk.kind hr.depth ?_ hs
  refine thn (h1.run pins s σ H (fun J H1 => ∃ ds c1 r1, Step r H r1 H1 ∧ Cells X.K r1 o c1 H1 ∧ GivesL X.K r1 o H1 ds J ∧ OkG X.K W (Is X.K) r1 o H1 σ Q (if hasTab c1 n P q = true then (match qL stop tg f (wipeD sl (own.map (·.2))) ds c1 with | .ok b c2 => .ok (.bl b) c2 | _ => .bad) else .bad)) I
    (h2 r o c sl H σ _ hcl hsl (ok_bind hq fun ds c1 r1 H1 J st hc1 hJ h1 => ⟨ds, c1, r1, st, hc1, hJ, h1⟩))) fun xv s1 hx => thn hx fun itv s2 hx2 => ?_
  obtain ⟨it, fp, tn, J, H2, rfl, I2, T, st2, f2, ds, c1, r1, stp, hc1, hJ, hok⟩ := hx2
  split at hok
  case isFalse => exact hok.elim
  rename_i htab
  have htab := hasTab_at htab
  cases eqq : qL stop tg f (wipeD sl (own.map (·.2))) ds c1 with
  | err x c2 => simp only [eqq] at hok; exact hok.elim
  | bad => simp only [eqq] at hok; exact hok.elim
  | ok bF cF =>
  simp only [eqq] at hok
  obtain ⟨a0, ha0, rfl, ps, hP, htr, hco⟩ := hc1.get htab
  have lim2 := I2.nolimit
  have cd : PySem.W.CodeHd s2.heap cc a0 := TB.code.keeps I2.bk
  have hPs : s2.heap.get? a0 = some { cls := .none, data := .fields ps } := I2.hok a0 _ hP
  refine ⟨lim2, ?_⟩
  -- behind the code object
  have cont : ∀ (code : Value) (s3 : Shared) (H3 : Hp), Inv X pins σ H3 s3 → (∀ b u, b ≠ a0 → s2.heap.get? b = some u → s3.heap.get? b = some u) → Step r1 H2 r1 H3 → Cells X.K r1 o c1 H3 →
      (∀ b ∈ fp, H3 b = none) →
      wpAny (model X.prog X.w) X.A (builtinsFor X.env.globals X.env.builtins) (fun bi s₄ =>
        ∀ h', h'.Ns s₄.heap.objs.size (fun y => if y = ".0" then some (.ref it) else none) → Heap.SameBut s₄.heap.objs.size (s₄.heap.push { cls := .type "frame", data := .dict #[] }) h' →
          wpAny (model X.prog X.w) X.A (spliced (backTo pos (starEach [] X.env))) (fun vs s5 => wpAny (model X.prog X.w) X.A (call (.builtin id) (.ref h'.objs.size :: vs)) (EP X pins σ Q) X.xe s5) X.xe { s₄ with
            gens := s₄.gens.push (.fresh (.compStart (.GeneratorExp elt [⟨tge, iter, [], 0⟩] scope gpos) 0 (.ref it) .none (genEnv scope (cloFrom X.env.cells scope.names []) s₄.heap.objs.size code bi X.env))),
            toks := s₄.toks + 1 + 1 + 1,
            heap := h'.push { cls := .type "generator", data := .fields #[.int s₄.gens.size 0, .str "<genexpr>" (s₄.toks + 1), .str (X.env.qual ++ "<genexpr>") (s₄.toks + 1 + 1)] } }) X.xe s3 := by
    intro code s3 H3 I3 kp3 st3 hc3 hn3
    obtain ⟨bm, ob, e1, e2, e3, e4, e5, e6, e7, e8⟩ := TB.bm
    refine wpAny_builtinsFor (m := X.mg) (by rw [I3.ok.glob]; exact I3.mod.glob.keeps I3.bk) e1 e2 (I3.bk _ _ e5) e6 e7 e8 ?_
    intro h' hns hsb
    refine Calls.spliced_nil ?_
    have hsz : h'.objs.size = s3.heap.objs.size + 1 := by rw [hsb.1, Heap.size_push]
    have kp' : ∀ b o, s3.heap.get? b = some o → h'.get? b = some o := fun b o e => hsb.extBut b o (Nat.ne_of_lt (Heap.lt_size e)) (Heap.get?_push_of_some _ e)
    have fsz : ∀ b ∈ fp, b < s3.heap.objs.size := fun b hb => by
      obtain ⟨ob, e, _⟩ := T.obj _ _ st2 b hb
      exact Heap.lt_size (kp3 b ob (fun z => by have := (f2 b hb).1; rw [z, hP] at this; cases this) e)
    have f3 : ∀ b ∈ fp, FpOk X pins H3 b ∧ b < s3.heap.objs.size := fun b hb => ⟨⟨hn3 b hb, (f2 b hb).2⟩, fsz b hb⟩
    have st3n : tn 0 s3.heap := T.keep _ _ _ st2 fun b hb ob e => kp3 b ob (fun z => by have := (f2 b hb).1; rw [z, hP] at this; cases this) e
    generalize hgo : ({ cls := .type "generator", data := .fields #[.int s3.gens.size 0, .str "<genexpr>" (s3.toks + 1), .str (X.env.qual ++ "<genexpr>") (s3.toks + 1 + 1)] } : Obj) = go
    have geta : (h'.push go).get? h'.objs.size = some go := Heap.get?_push_size _ (by rw [← hgo]; rfl)
    generalize hs5 : ({ s3 with gens := s3.gens.push (.fresh (.compStart (.GeneratorExp elt [⟨tge, iter, [], 0⟩] scope gpos) 0 (.ref it) .none (genEnv scope (cloFrom X.env.cells scope.names []) s3.heap.objs.size code builtinsNs X.env))), toks := s3.toks + 1 + 1 + 1, heap := h'.push go } : Shared) = s5
    have h5h : s5.heap = h'.push go := by rw [← hs5]
    have h5o : s5.os = s3.os := by rw [← hs5]
    have h5g : s5.gens = s3.gens.push (.fresh (.compStart (.GeneratorExp elt [⟨tge, iter, [], 0⟩] scope gpos) 0 (.ref it) .none (gEnv X scope s3.heap.objs.size code))) := by rw [← hs5]
    have bare5 : AllBare s5.gens := by rw [h5g]; exact I3.bare.push rfl
    have kp5 : ∀ b o, s3.heap.get? b = some o → s5.heap.get? b = some o := fun b o e => by rw [h5h]; exact Heap.get?_push_of_some _ (kp' b o e)
    have I5 : Inv (genCx X s3 H3 scope s3.heap.objs.size code fp) [(h'.objs.size, go)] (wipe σ (own.map (·.2))) H3 s5 := by
      refine gen_start (m := fun y => if y = ".0" then some (.ref it) else none) I3 ok hN hr.hd rfl f3 h5o bare5 kp5 (by rw [h5h]; exact hns.push _) fun p hp => ?_
      have e : p = (h'.objs.size, go) := by simpa using hp
      subst e
      refine ⟨by rw [h5h]; exact geta, I3.hok.fresh (by show s3.heap.objs.size ≤ h'.objs.size; omega), by show h'.objs.size ≠ s3.heap.objs.size; omega, fun z => ?_, fun v => by rw [← hgo]; exact fun z => by cases z⟩
      rcases List.mem_cons.mp (I3.stkSub _ z) with e | e
      · have := I3.lt
        rw [← e] at this
        have h2 : s3.heap.objs.size ≤ h'.objs.size := by omega
        exact absurd (Nat.lt_of_lt_of_le this h2) (Nat.lt_irrefl _)
      · exact I3.nofs (by omega) e
    have hgen : ∀ h : Heap, (∀ p ∈ [(h'.objs.size, go)], h.get? p.1 = some p.2) → h.IsGen h'.objs.size s3.gens.size := fun h hp => by
      have e := hp _ (List.mem_singleton.mpr rfl)
      rw [← hgo] at e
      exact ⟨_, _, _, e, rfl, rfl, rfl⟩
    have hs3' : SlOk X.K r1 o H3 (wipeD sl (own.map (·.2))) (wipe σ (own.map (·.2))) := ((hsl.mono stp).mono st3).wipe _
    have hJ3 : GivesL X.K r1 o H3 ds J := fun r' o' H' c' l hc i => hJ r' o' H' c' (st3.later.trans l) hc i
    have hPg : ∀ p ∈ [(h'.objs.size, go)], p.1 ∉ fp := fun p hp hb => by
      have e : p = (h'.objs.size, go) := by simpa using hp
      subst e
      have := fsz _ hb
      have h2 : s3.heap.objs.size ≤ h'.objs.size := by omega
      exact absurd (Nat.lt_of_lt_of_le this h2) (Nat.lt_irrefl _)
    have S0 : ∀ s'' : Shared, s''.heap = s5.heap → s''.os = s5.os → AllBare s''.gens → StG X s3 H3 scope s3.heap.objs.size code fp [(h'.objs.size, go)] (wipe σ (own.map (·.2))) (tn 0) o r1 (fun ci => qL stop tg f (wipeD sl (own.map (·.2))) (ds.drop 0) ci = .ok bF cF) s'' := fun s'' e1 e2 e3 =>
      StG.gens ⟨H3, r1, c1, I5, by rw [h5h]; exact T.keep _ _ _ st3n fun b _ ob e => Heap.get?_push_of_some _ (kp' b ob e), hn3, Step.refl, hc3, by rw [List.drop_zero]; exact eqq⟩ e1 e2 e3
    refine hcall X.A h'.objs.size s3.gens.size s5 (GSt X s3 H3 scope s3.heap.objs.size code fp [(h'.objs.size, go)] (wipe σ (own.map (·.2))) tn o r1 stop tg f (wipeD sl (own.map (·.2))) ds bF cF s3.gens.size) (ds.length + 1) _ _
      (fun b s1 => StG X s3 H3 scope s3.heap.objs.size code fp [(h'.objs.size, go)] (wipe σ (own.map (·.2))) (fun _ => True) o r1 (fun ci => bF = b ∧ cF = ci) s1) (hgen _ fun p hp => by rw [List.mem_singleton.mp hp, h5h]; exact geta)
      ⟨0, .fresh (.compStart (.GeneratorExp elt [⟨tge, iter, [], 0⟩] scope gpos) 0 (.ref it) .none (gEnv X scope s3.heap.objs.size code)), by simp, Nat.zero_le _, S0 s5 rfl rfl bare5, by rw [h5g]; exact Array.getElem?_push_size .., fun s'' e1 e2 e3 => ⟨rfl, ?_⟩⟩ (fun m s h => next_q hr hgen h) fun b s1 hE => ?_
    · have q := S0 s'' e1 e2 e3
      refine seg_q0 T (by obtain ⟨_, _, _, _, z, _⟩ := q; exact z) ?_
      exact seg_q hN T hJ3 hs3' ho ok.co hPg (hgt ..) (he ..) ds.length 0 s'' s'' (Nat.sub_zero _) (Nat.zero_le _) q
    · obtain ⟨Hi, ri, ci, I6, _, _, st6, hc6, rfl, rfl⟩ := hE
      have I7 : Inv X pins σ Hi s1 := I3.call' (ch := fp) I6.os I6.base I6.hok I6.bare fun b hb => ⟨(f3 b hb).1.2.2.2.1, (f3 b hb).1.2.1, (f3 b hb).1.2.2.2.2.1, (f3 b hb).1.2.2.2.2.2⟩
      exact ⟨.bl bF, Hi, I7, rfl, hok ri Hi (.bl bF) (st3.trans st6) hc6 .bl⟩
  cases hf : codeAmong gpos ps.toList with
  | none =>
    refine wpAny_genexprCodeX hcode (cd.code hPs htr) (cd.tab hPs) hf fun c' h' tk hx hge hlt hco' hrec htab' _ => ?_
    obtain ⟨o1, vs1, f1, tf, fl, tgx, inF, tx, tt, op, _, _, _, _, _, _, _, _, _, htr', _⟩ := hco'
    obtain ⟨cn, oc, vs, tq, e2, hoc, hd, hvv⟩ := hrec
    cases e2
    have hn : H2 c' = none := I2.hok.fresh hge
    have I3 := LamX.inv_table (t' := tk) (more := #[rawInt gpos.line, rawInt gpos.col, .ref c']) (h' := h') (q := q) I2 hP hx htab'.2 hge ⟨oc, vs, tq, hoc, hd, by rw [← hqn]; exact hvv⟩
    have eL : (ps ++ #[rawInt gpos.line, rawInt gpos.col, .ref c']).toList = ps.toList ++ [rawInt gpos.line, rawInt gpos.col, .ref c'] := by simp
    obtain ⟨hc3, st3⟩ := hc1.tabled (ps' := ps ++ #[rawInt gpos.line, rawInt gpos.col, .ref c']) (cn := c') htab hP hn htr' (fun pos' cv hcv => by rw [eL] at hcv; exact LamX.among_app _ htr hcv)
    exact cont _ _ _ I3 hx st3 hc3 fun b hb => by
      have z := (f2 b hb).1
      have hne : b ≠ c' := fun e => by
        obtain ⟨ob, eb, _⟩ := T.obj _ _ st2 b hb
        have := Heap.lt_size eb
        rw [e] at this
        exact absurd (Nat.lt_of_lt_of_le this hge) (Nat.lt_irrefl _)
      rw [upd_ne hne, upd_ne (fun e => by rw [e, hP] at z; cases z)]
      exact z
  | some cv =>
    refine wpAny_genexprCode_hit hcode (cd.code hPs htr) hf ?_
    exact cont cv s2 H2 I2 (fun b u _ e => e) Step.refl hc1 fun b hb => (f2 b hb).1
end
end RL

set_option Elab.async false
set_option linter.all false
set_option maxRecDepth 100000
set_option maxHeartbeats 4000000
namespace PySem
namespace OwnX
open PySem.W PySem.Calls PyProof.Rows PySem.HandSPX
/-! ### class C(..ValueError): def __init__(self, f): super().__init__(f'pre{f}'); self.f = f -/
def oA (fn : Str) (p1 p2 : Pos) : Arguments := { posonlyargs := [], args := [{ arg := "self", annotation := none, pos := p1 }, { arg := fn, annotation := none, pos := p2 }], vararg := none, kwonlyargs := [], kw_defaults := [], kwarg := none, defaults := [] }
def oB (fn pre : Str) (j : Nat) (q1 q2 q3 q4 q5 q6 q7 q8 q9 r1 r2 r3 r4 : Pos) : List Stmt :=
  [.Expr (.Call (.Attribute (.Call (.Name "super" q1) [] [] q2) "__init__" q3) [.JoinedStr [.Constant (.str pre) j q4, .FormattedValue (.Name fn q5) (-1) none q6] q7] [] q8) q9,
   .Assign [.Attribute (.Name "self" r1) fn r2] (.Name fn r3) r4]
def oS (fn : Str) : Scope := { kind := .function, names := [(PySem.Str.ofString "self", .local), (fn, .local), (PySem.Str.ofString "__class__", .free), (PySem.Str.ofString "super", .globalImplicit)], isGenerator := false, isCoroutine := false, more := [] }
def EvM (o : Expr) (name : Str) (q3 q8 : Pos) (args : List Expr) : Prop := ∃ pl : Env → Sem Bool, ∀ env, eval (.Call (.Attribute o name q3) args [] q8) env = (do
      let ov ← attributeBase o name env (eval o env)
      standAt q3.atName
      let (f, first) ← holding [ov] (getMethod ov name (pl env))
      callWith q8 f first (backTo q8 (starEach args env)) [])
theorem evm_test : EvM (.Call (.Name "super" ⟨7, 8, 7, 13⟩) [] [] ⟨7, 8, 7, 15⟩) "__init__" ⟨7, 8, 7, 24⟩ ⟨7, 8, 7, 49⟩ [.JoinedStr [.Constant (.str "x") 0 ⟨7, 8, 7, 24⟩, .FormattedValue (.Name "name" ⟨7, 8, 7, 24⟩) (-1) none ⟨7, 8, 7, 24⟩] ⟨7, 8, 7, 24⟩] := ⟨_, fun _ => rfl⟩
/-- what the written part says -/
structure OwnTxt (prog : Program) (K : Frag) (mg : Str → Option Value) (base : Heap) (cn fn pre : Str) (C fI cc cda : Addr) : Prop where
  gC : mg cn = some (.ref C)
  T : L2.OexC K C
  no : findIn K (.ref C) fn = some none
  iC : findIn K (.ref C) "__init__" = some (some (.ref fI))
  tI : typeIn K (.ref fI) = some (.type "function")
  xf : L2.XfC K C
  fnn : ∃ (oc : Value) (od : Option Addr) (doc pm : Value) (an : Option Addr) (ct : Value) (osl : Array (Option Value)) (j : Nat) (p1 p2 q1 q2 q3 q4 q5 q6 q7 q8 q9 r1 r2 r3 r4 : Pos),
    K.lookup fI = some ⟨oc, od, .func (ksFn "__init__" (cn ++ ".__init__") (oA fn p1 p2) (oB fn pre j q1 q2 q3 q4 q5 q6 q7 q8 q9 r1 r2 r3 r4) (oS fn) .none .none doc pm an (.ref cda) ct cc), osl⟩ ∧
    EvM (.Call (.Name "super" q1) [] [] q2) "__init__" q3 q8 [.JoinedStr [.Constant (.str pre) j q4, .FormattedValue (.Name fn q5) (-1) none q6] q7]
  cd : codeIn K (.ref cda) (cn ++ ".__init__") = true
  cell : ∃ cl cld csl, K.lookup cc = some ⟨cl, cld, .cell (some (.ref C)), csl⟩
  code : ∃ ccl cdd vs ccs file tf, K.lookup cda = some ⟨ccl, cdd, .fields vs, ccs⟩ ∧ vs[2]? = some (.str file tf) ∧ ((prog.main.file : Str) == file) = true
  sup : ks_superIn K C C "__init__" = some (some (.builtin "ValueError.__init__"))
  sub : subIn K (.ref C) (.type "ValueError") = some true
  self : mroIn K C (.ref C) = some true
  nsup : mg "super" = none
  any : nsIn K cStatics "thirdparty.any" = some none
  top : (prog.main.scope.names.lookup ("super" : Str)).isSome = false
/-- what __init__ leaves of a fresh exception at x -/
structure InitEnd (h h' : Heap) (x C dx t1 : Addr) (fn : Str) (v : Value) : Prop where
  keep : ∀ b o, b ≠ x → h.get? b = some o → h'.get? b = some o
  obj : h'.get? x = some { cls := .ref C, dict := some dx, data := .fields #[.ref t1, .none, .none, .none, .bool false, .none] }
  dbig : h.objs.size ≤ dx
  dne : dx ≠ x
  ns : h'.Ns1 dx (fun y => if y = fn then some v else none)
theorem boot_super : bootBuiltins "super" = some (.type "super") := by first | rfl | kernel_rfl | decide +kernel
section
variable {prog : Program} {w : World} {A : Around} {E : Value → Shared → Prop} {h : Heap} {g : Array GenState} {d : Drawn} {t : Nat} {os : OsState}
variable {nm q : Str} {C N : Addr} {bs bm : List Value} {hdct : Bool} {sn : List Str} {sub : List Value} {ab : Bool} {col : Option Bool} {dd : Option Addr} {k0 k1 k2 k3 k5 : Option Value}
theorem call_mw {u e t0 : Addr} {rest : List Value} {Q : Value → Shared → Prop}
    (hC : h.get? C = some (excClassObj nm q C N bs bm hdct sn sub ab col dd k0 k1 k2 k3 k5 "ValueError.__new__")) (he : h.get? e = some (excO C t0)) (hu : h.get? u = some (kxs_mw "ValueError.__init__" e)) (hrest : rest.length ≤ sizeLine)
    (hq : ∀ h' t1, (∀ b o, b ≠ e → h.get? b = some o → h'.get? b = some o) → h'.get? e = some (excO C t1) → Q .none ⟨h', g, d, t, os⟩) :
    wpAny (model prog w) A (call (.ref u) rest) Q E ⟨h, g, d, t, os⟩ := by
  refine wpAny_call (codeAny_of_tree ?_)
  show wpAny _ A.in1 (callAny (.ref u) ⟨rest, []⟩) _ _ _
  simp only [callAny]
  refine wpAny_bind (wpAny_load hu ?_)
  simp only [kxs_mw, show (Value.type "method-wrapper" == Value.type "method" || Value.type "method-wrapper" == Value.type "builtin_function_or_method" || Value.type "method-wrapper" == Value.type "method-wrapper") = true by decide, if_true]
  refine KFB.if_so (by decide) ?_
  refine wpAny_bind (check_bound_init F.excBase_ValueError.toExcCallFacts hC he rfl ?_)
  refine wpAny_bind (wpAny_pure (wpAny_pure ?_))
  refine ⟨plainId_quiet F.excBase_ValueError.init.plain _, codeAny_builtin F.excBase_ValueError.initEntry ?_⟩
  rw [Around.under_plainId F.excBase_ValueError.init.plain _]
  wp_walk
  refine hq _ h.objs.size (fun b o hb ho => ?_) ?_
  · rw [Heap.get?_update_other _ _ (Ne.symm hb)]
    exact Heap.get?_push_of_some _ ho
  · rw [Heap.get?_update_self _ (Heap.get?_push_of_some _ he) rfl]
    rfl
end
section
variable {prog : Program} {w : World} {A : Around} {R : Result → Shared → Prop} {s : Shared} {K : Frag} {mg : Str → Option Value} {base : Heap} {cn fn pre : Str} {C fI cc cda : Addr}
theorem own_init (T : OwnTxt prog K mg base cn fn pre C fI cc cda) (M : L2.Mod K mg base) (hbase : ∀ b o, base.get? b = some o → s.heap.get? b = some o) {x t0 : Addr} {z : Str} {tz : Tok} (hfn : (fn == ("__debug__" : Str)) = false) (l1 : (oS fn).names.lookup ("super" : Str) = some .globalImplicit) (l2 : (oS fn).names.lookup ("__class__" : Str) = some .free) (l3 : (oS fn).names.lookup ("self" : Str) = some .local) (l4 : (oS fn).names.lookup fn = some .local)
    (m1 : ∀ a b : Value, ([(("self" : Str), a), (fn, b)] : List (Str × Value)).reverse.lookup ("self" : Str) = some a) (m2 : ∀ a b : Value, ([(("self" : Str), a), (fn, b)] : List (Str × Value)).reverse.lookup fn = some b)
    (hbd : ∀ (dV kV doc pm ct : Value) (an : Option Addr) (p1 p2 : Pos) (bd : List Stmt) (a b : Value), bindArgs (ksFn "__init__" (cn ++ ".__init__") (oA fn p1 p2) bd (oS fn) .none .none doc pm an (.ref cda) ct cc) ⟨[a, b], []⟩ = pure [(("self" : Str), a), (fn, b)]) (hz : z.length ≤ 100000) (hpre : pre.length ≤ 1000)
    (hx : s.heap.get? x = some (excO C t0)) (hnx : K.lookup x = none) (hroom : A.depth < recursionLimit)
    (hq : ∀ h' tk dx t1, InitEnd s.heap h' x C dx t1 fn (.str z tz) → R (.ok (.ret .none)) { s with heap := h', toks := tk }) :
    codeAny (model prog w) A (.call (.ref fI) ⟨[.ref x, .str z tz], []⟩) R s := by
  obtain ⟨oc, od, doc, pm, an, ct, osl, j, p1, p2, q1, q2, q3, q4, q5, q6, q7, q8, q9, r1, r2, r3, r4, ho, pl, hev⟩ := T.fnn
  obtain ⟨nm, q, N, bs, bm, sn, sub, ab, col, dd, k0, k1, k2', k3', k5, hC, hbm⟩ := T.T.cls
  obtain ⟨ccl, cdd, vs, ccs, file, tf, hcode, hvs, hfile⟩ := T.code
  obtain ⟨cl, cld, csl, hcell⟩ := T.cell
  obtain ⟨hp, g, d, tks, os⟩ := s
  have hcl : clsIn K C = some { name := nm, bases := bs, mro := .ref C :: bm, ns := N, qualname := q, hasDict := true, slotNames := sn, subclasses := sub, abstract := ab, collection := col, hasDel := false } := by unfold clsIn; rw [hC] <;> rfl
  have X : K.In hp := M.kin.keeps hbase
  have hlim := M.nolimit.keeps hbase
  refine ks_codeAny_call_defAt (binds := [(("self" : Str), .ref x), (fn, .str z tz)]) hroom (X _ _ ho) rfl hlim (codeRec_of X T.cd) rfl ?_ ?_ ?_ (fun h₁ hn k => ?_) rfl rfl rfl
  · exact BindsTo.of_eq (hbd .none .none doc pm ct an p1 p2 _ _ _)
  · intro y hy
    simp only [ksFn, fnX, oS, List.mem_cons, List.not_mem_nil, or_false] at hy
    rcases hy with rfl | rfl | rfl | rfl <;> exact fun e => by cases e
  · intro y hy
    rcases List.mem_cons.mp hy with rfl | hy
    · exact l3
    · rcases List.mem_cons.mp hy with rfl | hy
      · exact l4
      · cases hy
  · have X1 : K.In h₁ := X.keeps k
    have b1 : ∀ b o, base.get? b = some o → h₁.get? b = some o := fun b o e => k b o (hbase b o e)
    have hx1 := k _ _ hx
    have hlt := Heap.lt_size hx
    refine ks_wpAt_execs_cons (ks_wpAt_Expr_any (ks_wpAt_MethodCall (ks_wpAt_super_base l1 l2 (by decide) rfl (X1 _ _ ho) rfl rfl rfl (X1 _ _ hcode) rfl hvs hfile T.top ?_) (hev _)))
    obtain ⟨mb, hmb, hbt⟩ := M.blt
    refine ks_loadName_global rfl l1 (loadGlobal_builtin (M.glob.keeps b1) T.nsup (hmb.keeps b1) ((hbt _ (by decide)).trans boot_super) ⟨rfl, ?_⟩)
    refine wpAny_loadName_free rfl l2 rfl ⟨_, X1 _ _ hcell, rfl⟩ ?_
    refine wpAny_loadName_local rfl l3 hn (m1 _ _) ?_
    refine ks_wpAny_isType_cls (X1 _ _ hC) rfl ⟨rfl, ?_⟩
    have I1 : InstAt h₁ x (excO C t0) C none := ⟨hx1, rfl, rfl, trivial⟩
    refine ks_wpAny_call_super (X1 _ _ hC) rfl hx1 rfl (fun c e => by cases e) (looks_mroIn X1 T.self) (fun h2 e2 k2 => ?_)
    have X2 : K.In h2 := X1.keeps k2
    have I2 : InstAt h2 x (excO C t0) C none := ⟨k2 _ _ hx1, rfl, rfl, trivial⟩
    have hsup : alongIn K ("__init__" : Str) (((Value.ref C :: bm).dropWhile (· != Value.ref C)).drop 1) = some (some (.builtin "ValueError.__init__")) := by
      have z := T.sup
      unfold ks_superIn at z
      rw [hcl] at z
      exact z
    refine kxs_getMethod kxs_ValueError e2 (looks_opaque X2 T.any) (l₀ := .ref C :: bm) (fun A Q E s k q => wpAny_bind ((looks_clsIn X2 hcl) A _ E s k (wpAny_pure q))) rfl X2 hsup (I2.type.andThen (looks_subIn X2 T.sub)) (ks_ne X2 I2 hcl) (by decide) ?_
    have hu : (h2.push (kxs_mw "ValueError.__init__" x)).get? h2.objs.size = some (kxs_mw "ValueError.__init__" x) := Heap.get?_push_size _ rfl
    have k3 : ∀ b o, h₁.get? b = some o → (h2.push (kxs_mw "ValueError.__init__" x)).get? b = some o := fun b o e => Heap.get?_push_of_some _ (k2 b o e)
    show wpAny _ _ (callWith q8 (.ref h2.objs.size) [] ((false, eval (.JoinedStr [.Constant (.str pre) j q4, .FormattedValue (.Name fn q5) (-1) none q6] q7) _) :: []) []) _ _ _
    refine kxs_callWith (i := "ValueError.__init__") (x := x) rfl (evalArgs_plain (spliced_cons ?_))
    refine wpAny_JoinedStr ?_
    show wpAny _ _ (eval (.Constant (.str pre) j q4) _) _ _ _
    have sl : sizeLine = 16777216 := sizeLine_eq
    refine Constant_str ⟨pre, _, rfl, ?_, ?_⟩
    · show (Str.empty ++ pre).length ≤ sizeLine
      have : (Str.empty ++ pre).length = 0 + pre.length := Str.length_append ..
      omega
    have hn3 : (h2.push (kxs_mw "ValueError.__init__" x)).Ns hp.objs.size (fun y => ([(("self" : Str), Value.ref x), (fn, Value.str z tz)] : List (Str × Value)).reverse.lookup y) := hn.keeps k3
    show wpAny _ _ (eval (.FormattedValue (.Name fn q5) (-1) none q6) _) _ _ _
    have e1 : (Str.empty ++ pre).length = 0 + pre.length := Str.length_append ..
    have e2 : ((Str.empty ++ pre) ++ z).length = (Str.empty ++ pre).length + z.length := Str.length_append ..
    have hL : hp.objs.size ≠ x := Nat.ne_of_gt (Heap.lt_size hx)
    refine wpAny_FormattedValue_plain (wpAny_Name (wpAny_loadName_local rfl l4 hn3 (m2 _ _) ?_) hfn)
    refine wpAny_formatField_str ?_ ?_ (by omega)
    all_goals
      refine ⟨z, _, rfl, by omega, by omega, spliced_nil ⟨hu, ?_⟩⟩
      refine call_mw (nm := nm) (q := q) (N := N) (bs := bs) (bm := bm) (hdct := true) (sn := sn) (sub := sub) (ab := ab) (col := col) (dd := dd) (k0 := k0) (k1 := k1) (k2 := k2') (k3 := k3') (k5 := k5) (Heap.get?_push_of_some _ (X2 _ _ hC)) (k3 _ _ hx1) hu (by show 1 ≤ sizeLine; omega) fun h4 t1 k4 hx4 => ?_
      have X4 : K.In h4 := fun a o e => k4 a o (fun z => by rw [z, hnx] at e; cases e) (k3 a o (X1 a o e))
      have hn4 : h4.Ns hp.objs.size (fun y => ([(("self" : Str), Value.ref x), (fn, Value.str z tz)] : List (Str × Value)).reverse.lookup y) := hn3.at' fun o e => k4 _ o hL e
      show wpAt _ _ _ (execs _ _) _ _ _
      refine ks_wpAt_execs_cons (ks_wpAt_Assign_Attr (wpAt_of_wpAny (wpAny_Name (wpAny_loadName_local rfl l4 hn4 (m2 _ _) ?_) hfn)))
      refine wpAny_Name (wpAny_loadName_local rfl l3 hn4 (m1 _ _) ?_) (by decide)
      refine set_plain X4 (ox := excO C t1) (od := none) ⟨hx4, rfl, rfl, trivial⟩ T.T.sa ?_
      refine exc_osa X4 hx4 hcl (show refsVE (.ref C :: bm) = true from hbm) rfl T.no (fun h5 tk5 dx k5 dn dne hx5 hn5 => ?_)
      show wpAt _ _ _ (execs _ _) _ _ _
      have z4 : hp.objs.size < h4.objs.size := hn4.lt
      exact wpAt_of_wpAny (wpAny_execs_nil (hq h5 tk5 dx t1 ⟨fun b o hb e => k5 b o hb (k4 b o hb (k3 b o (k b o e))), hx5, Nat.le_of_lt (Nat.lt_of_lt_of_le z4 dn), dne, hn5⟩))
end
end OwnX
end PySem

set_option Elab.async false
set_option linter.all false
set_option maxRecDepth 100000
set_option maxHeartbeats 4000000
namespace PySem
namespace OwnX
open PySem.W PySem.Calls PyProof.Rows PySem.HandSPX
structure FldOk (fn : Str) : Prop where
  hfn : (fn == ("__debug__" : Str)) = false
  l1 : (oS fn).names.lookup ("super" : Str) = some .globalImplicit
  l2 : (oS fn).names.lookup ("__class__" : Str) = some .free
  l3 : (oS fn).names.lookup ("self" : Str) = some .local
  l4 : (oS fn).names.lookup fn = some .local
  m1 : ∀ a b : Value, ([(("self" : Str), a), (fn, b)] : List (Str × Value)).reverse.lookup ("self" : Str) = some a
  m2 : ∀ a b : Value, ([(("self" : Str), a), (fn, b)] : List (Str × Value)).reverse.lookup fn = some b
  hbd : ∀ (qn : Str) (dV kV doc pm ct : Value) (an : Option Addr) (p1 p2 : Pos) (bd : List Stmt) (a b cda : Value) (cc : Addr), bindArgs (ksFn "__init__" qn (oA fn p1 p2) bd (oS fn) .none .none doc pm an cda ct cc) ⟨[a, b], []⟩ = pure [(("self" : Str), a), (fn, b)]
theorem fld_name : FldOk "name" := ⟨by decide, rfl, rfl, rfl, rfl, fun _ _ => rfl, fun _ _ => rfl, fun _ _ _ _ _ _ _ _ _ _ _ _ _ _ => rfl⟩
theorem fld_why : FldOk "why" := ⟨by decide, rfl, rfl, rfl, rfl, fun _ _ => rfl, fun _ _ => rfl, fun _ _ _ _ _ _ _ _ _ _ _ _ _ _ => rfl⟩
/-- a made exception -/
structure OwnMade (h h' : Heap) (e C d : Addr) (fn : Str) (v : Value) : Prop where
  keep : ∀ b o, h.get? b = some o → h'.get? b = some o
  new : h.objs.size ≤ e
  obj : ∃ oe vs, h'.get? e = some oe ∧ oe.cls = .ref C ∧ oe.dict = some d ∧ oe.data = .fields vs ∧ vs[1]? = some .none
  dbig : h.objs.size ≤ d
  dne : d ≠ e
  ns : h'.Ns1 d (fun y => if y = fn then some v else none)
section
variable {prog : Program} {w : World} {A : Around} {R : Result → Shared → Prop} {s : Shared} {K : Frag} {mg : Str → Option Value} {base : Heap} {cn fn pre : Str} {C fI cc cda : Addr}
theorem own_made (T : OwnTxt prog K mg base cn fn pre C fI cc cda) (F : FldOk fn) (M : L2.Mod K mg base) (hbase : ∀ b o, base.get? b = some o → s.heap.get? b = some o) {z : Str} {tz : Tok} (hz : z.length ≤ 100000) (hpre : pre.length ≤ 1000) (hroom : A.depth + 1 < recursionLimit)
    (hq : ∀ h' tk e d, OwnMade s.heap h' e C d fn (.str z tz) → R (.ok (.ret (.ref e))) { s with heap := h', toks := tk }) :
    codeAny (model prog w) A (.call (.ref C) ⟨[.str z tz], []⟩) R s := by
  obtain ⟨nm, q, N, bs, bm, sn, sub, ab, col, dd, k0, k1, k2, k3, k5, hC, hbm⟩ := T.T.cls
  obtain ⟨hp, g, dr, tk, os⟩ := s
  have X : K.In hp := M.kin.keeps hbase
  have k : ∀ b o, hp.get? b = some o → ((hp.push (kdv_tup [.str z tz])).push (excO C hp.objs.size)).get? b = some o := fun b o e => Heap.get?_push_of_some _ (Heap.get?_push_of_some _ e)
  have hget : ((hp.push (kdv_tup [.str z tz])).push (excO C hp.objs.size)).get? (hp.objs.size + 1) = some (excO C hp.objs.size) := by heap_get
  have hnx : K.lookup (hp.objs.size + 1) = none := by
    cases e : K.lookup (hp.objs.size + 1) with
    | none => rfl
    | some o =>
      have z : hp.get? (hp.objs.size + 1) = some o := X _ _ e
      exact absurd (Nat.lt_of_succ_lt (Heap.lt_size z)) (Nat.lt_irrefl _)
  refine call_own PySem.F.excBase_ValueError (fun X => refsVE_contains X bm hbm) (X _ _ hC) (looks_findIn X T.iC) (fun self => bind_fn X self T.tI) (by show 1 ≤ sizeLine; rw [sizeLine_eq]; decide) ?_
  refine own_init (s := ⟨(hp.push (kdv_tup [.str z tz])).push (excO C hp.objs.size), g, dr, tk, os⟩) T M (fun b o e => k b o (hbase b o e)) F.hfn F.l1 F.l2 F.l3 F.l4 F.m1 F.m2 (fun dV kV doc pm ct an p1 p2 bd a b => F.hbd _ dV kV doc pm ct an p1 p2 bd a b _ _) hz hpre hget hnx ?_ fun h' tk' dx t1 ⟨k', hx, dn, dne, hns⟩ => ?_
  · show A.depth + 1 < recursionLimit
    exact hroom
  · have old : ∀ b o, hp.get? b = some o → h'.get? b = some o := fun b o e => k' b o (Nat.ne_of_lt (Nat.lt_succ_of_lt (Heap.lt_size e))) (k b o e)
    have z : hp.objs.size + 1 + 1 ≤ dx := by
      first
        | (simpa only [Heap.size_push] using dn)
        | exact dn
        | (have q := dn; rw [Heap.size_push, Heap.size_push] at q; exact q)
    exact ⟨rfl, hq h' tk' (hp.objs.size + 1) dx ⟨old, Nat.le_succ _, ⟨_, _, hx, rfl, rfl, rfl, rfl⟩, Nat.le_trans (Nat.le_trans (Nat.le_succ _) (Nat.le_succ _)) z, dne, hns⟩⟩
end
end OwnX
end PySem
namespace RL
open PySem PySem.Spec PyProof.Rows L2
section
variable {X : Cx} {cn fn pre : Str} {C fI cc cda : Addr}
/-- C(e), e a text -/
def tMkOwn (C : Addr) (fn : Str) (ta : TA) : L2.St → Hp → XK → Prop := fun σ H Q => ta σ H fun vs H1 => ∃ z : Str, vs = [.str z] ∧ z.length ≤ 100000 ∧ ∀ d, H1 d = none → Q (.ref C) (some d) (upd H1 d (.xd [(fn, .str z)]))
theorem pmk_own {a : Expr} {ta : TA} {p pos : Pos} {k : Nat} (T : PySem.OwnX.OwnTxt X.prog X.K X.mg X.base cn fn pre C fI cc cda) (F : PySem.OwnX.FldOk fn) (hpre : pre.length ≤ 1000) (hr : Room k X.A) (ha : PA X [a] ta) (hg : Gl X cn) (hdb : (cn == ("__debug__" : Str)) = false)
    (he : starEach (a :: []) X.env = (false, eval a X.env) :: starEach [] X.env := by rfl) (hpl : (backTo pos (starEach [] X.env)).any (·.1) = false := by rfl) :
    PMk X (.Call (.Name cn p) [a] [] pos) (tMkOwn C fn ta) := by
  intro pins s σ H Q I h
  refine wpAny_Call_Name_kw (ld_glob I hg T.gC ?_ hdb)
  refine PySem.W.callWith_K (h₀ := X.base) I.ok.mod.kin T.T.kC (thn (ha.run pos pins s σ H _ I h) fun us s1 hh => ?_) he hpl
  obtain ⟨vs, H1, I1, r1, z, ev, hz, q1⟩ := hh
  subst ev
  refine ⟨I1.kIn, ?_⟩
  cases r1 with
  | cons rv rn =>
    rename_i v' us'
    cases rn
    obtain ⟨tz, rfl⟩ := rv
    show wpAny _ _ (call (.ref C) [.str z tz]) _ _ _
    have hbs := I1.bk
    obtain ⟨hp, g, dr, tk, os⟩ := s1
    refine wpAny_call (PySem.OwnX.own_made T F I1.ok.mod hbs hz hpre (by have := hr.dp; omega) fun h' tk' e d M => ?_)
    show MkP X pins σ Q (.ref e) ⟨h', g, dr, tk', os⟩
    obtain ⟨oe, fv, hoe, hc, hd, hdat, h1⟩ := M.obj
    have hns := M.ns
    obtain ⟨G', g1, g2⟩ := restrict h' fun b => decide (b ≠ e)
    have gk : ∀ b, b ≠ e → G'.get? b = h'.get? b := fun b hb => g1 b (decide_eq_true hb)
    have ge : G'.get? e = none := g2 e (by simp)
    have old : ∀ b o, hp.get? b = some o → G'.get? b = some o := fun b o q => (gk b (Nat.ne_of_lt (Nat.lt_of_lt_of_le (Heap.lt_size q) M.new))).trans (M.keep b o q)
    have ob : ObjOk X.prog X.w (upd H1 d (.xd [(fn, .str z)])) G' d (.xd [(fn, .str z)]) := by
      refine ⟨_, hns.at (fun o q => (gk d M.dne).trans q), fun f => ?_⟩
      have e2 := lookup_put fn f (V.str z) []
      rw [e2]
      by_cases hf : f = fn
      · rw [if_pos hf, if_pos hf]; exact ⟨tz, rfl⟩
      · rw [if_neg hf, if_neg hf]; trivial
    have J : Inv X pins σ (upd H1 d (.xd [(fn, .str z)])) ⟨G', g, dr, tk', os⟩ := I1.laid (t' := tk') old M.dbig ob
    refine ⟨e, oe, fv, ⟨G', g, dr, tk', os⟩, _, .ref C, some d, rfl, J, fun b o q => ?_, ge, hoe, ⟨hc, hd⟩, hdat, h1, ?_, rfl, I1.bare, raises_own T.T.exC T.T.tyC, q1 d (I1.hok.fresh M.dbig)⟩
    · by_cases hb : b = e
      · have q' : G'.get? b = some o := q
        rw [hb, ge] at q'; cases q'
      · exact (gk b hb).symm.trans q
    · rw [upd_ne (Ne.symm M.dne)]
      exact I1.hok.fresh M.new
variable {K : PySem.W.Frag} {r r' r1 r2 o o' o1 : List Addr} {H H' H1 H2 : Hp} {c c' c1 c2 : Cs} {W : WX} {t : L2.St}
/-- raise C(e) -/
def sRaise (C : Addr) (fn : Str) (f : FE) : FS := fun s c => (f s c).toS s fun d c1 => match d with | .str z => if z.length ≤ 100000 then .err ⟨C, [(fn, .str z)]⟩ s c1 else .bad | _ => .bad
theorem rs_raise {a : Expr} {f : FE} {p pos pos2 : Pos} {k : Nat} (hc : X.calm = true) (tk : Takes X W) (T : PySem.OwnX.OwnTxt X.prog X.K X.mg X.base cn fn pre C fI cc cda) (F : PySem.OwnX.FldOk fn) (hpre : pre.length ≤ 1000) (hr : Room k X.A) (ha : RE X W a f) (hg : Gl X cn) (hdb : (cn == ("__debug__" : Str)) = false := by decide)
    (he : starEach (a :: []) X.env = (false, eval a X.env) :: starEach [] X.env := by rfl) (hpl : (backTo pos (starEach [] X.env)).any (·.1) = false := by rfl) : RS X W (.Raise (some (.Call (.Name cn p) [a] [] pos)) none pos2) (sRaise C fn f) := by
  obtain ⟨_, h1, h2⟩ := ha
  refine ⟨_, ps_raise hc tk (pmk_own T F hpre hr (pa_cons h1 pa_nil he) hg hdb he hpl), fun r o c s H t D hcl hs h => ?_⟩
  refine h2 r o c s H t _ hcl hs (ok_toS hs h fun d c1 r1 H1 v s1 hc1 hv q => ?_)
  split at q
  · rename_i z
    split at q
    · rename_i hz
      refine ⟨z, by rw [hv.str_inv], hz, fun dx hdx => ?_⟩
      refine q r1 _ t (.ref C) (some dx) (Step.new hdx) (hc1.new hdx) ((hs.mono s1).mono (Step.new hdx)) ⟨rfl, dx, _, rfl, upd_same, hc1.fresh hdx, hc1.freshO hdx, rfl, .cons .str .nil⟩
    · exact q.elim
  · exact q.elim
end
end RL

set_option Elab.async false
set_option linter.all false
set_option maxRecDepth 100000
set_option maxHeartbeats 4000000
/-! several clauses 'except x as n' -/
namespace L2
open PySem PySem.Spec PyProof.Rows
def asEnds (i : Nat) (D : Ends) : Ends := { nx := fun σ' H' => D.nx (σ'.set i none) H', rt := D.rt, bk := fun σ' H' => D.bk (σ'.set i none) H', ct := fun σ' H' => D.ct (σ'.set i none) H' }
def wManyAs (K : PySem.W.Frag) (i : Nat) (Wout : WX) (D : Ends) : List (Value × (Addr → Value → Option Addr → TS)) → WX
  | [] => Wout
  | (c, ts) :: r => fun cls d σ H => ∃ b, PySem.W.exmOne K cls c = some b ∧ (b = true → ∀ a, H a = none → ts a cls d (asEnds i D) (σ.set i (some (.ref a))) H) ∧ (b = false → wManyAs K i Wout D r cls d σ H)
inductive HdsAs (X : Cx) (n : Str) : List ExceptHandler → List (Value × (Addr → Value → Option Addr → TS)) → Prop
  | nil : HdsAs X n [] []
  | cons {x : Str} {c : Value} {ts : Addr → Value → Option Addr → TS} {b₀ : Stmt} {suite : List Stmt} {np pos' : Pos} {hds : List ExceptHandler} {l : List (Value × (Addr → Value → Option Addr → TS))} (hc : Names X x c)
      (hsu : ∀ (a : Addr) (oe : Obj) (cls : Value) (d : Option Addr) (pn : List (Addr × Obj)), Zc cls d oe → (∃ vs, oe.data = .fields vs) → PSs (X.suite a ((a, oe) :: pn)) (b₀ :: suite) (ts a cls d)) (r : HdsAs X n hds l) :
      HdsAs X n (.ExceptHandler (some (.Name x np)) (some n) (b₀ :: suite) pos' :: hds) ((c, ts) :: l)
section
variable {X : Cx} {n : Str} {i : Nat} {body : List Stmt} {h₀ : ExceptHandler} {hds : List ExceptHandler} {l : List (Value × (Addr → Value → Option Addr → TS))} {pos : Pos} {tb : WX → TS} {Wout : WX}
theorem ps_try_many_as (hs : X.stack = X.env :: X.outer) (hf : X.env.frame = some X.env.locals) (hN : X.N.Nodup) (hi : X.N[i]? = some n) (hln : X.env.kindOf n = some .local) (tk : Takes X Wout)
    (hb : ∀ (W : WX) (pn : List (Addr × Obj)) (xe : Value → Shared → Prop), Takes (X.tr pn xe) W → PassesOwn (model X.prog X.w) X.A X.env xe → PSs (X.tr pn xe) body (tb W))
    (hh : HdsAs X n (h₀ :: hds) l) : PS X (.Try body (h₀ :: hds) [] [] pos) (fun D σ H => tb (wManyAs X.K i Wout D l) D σ H) := by
  refine ⟨fun pins s σ H D I h => ?_⟩
  have ok := I.ok
  have hfr : X.A.frames = some (X.env :: X.outer) := by rw [ok.frames, hs]
  have hloc : Loc X.env.scope n := .inl hln
  refine wpAny_Try_except ?_
  refine wpAny_mono ((hb (wManyAs X.K i Wout D l) (X.pn ++ pins) (fun e s₁ => wpAny (model X.prog X.w) X.A (noteFrame e X.env) (fun _ s₂ => wpAny (model X.prog X.w) X.A (setFlight e none) (fun _ s₃ =>
    wpAny (model X.prog X.w) X.A (handleBy e X.env (h₀ :: hds)) (SP X pins D) X.xe s₃) X.xe s₂) X.xe s₁) (fun u s' xx => ?_) PassesOwn.looking).run [] s σ H D (I.toTry _) h) (fun f s1 hsp => ?_) (fun e s1 he => he)
  · obtain ⟨a, B, sI, pins', σ', H', cls, d, rfl, J', nb, up, sky, na, os, ag, w⟩ := xx
    have J : Inv X pins σ' H' sI := J'.ofTry ok
    have sky' : Sky B (X.env :: X.outer) a (Zc cls d) X.env.locals s'.heap := by rw [← hs]; exact sky
    show wpAny (model X.prog X.w) X.A (noteFrame (.ref a) X.env) _ _ _
    refine Sky.land Zc.steady hfr hf sky' fun h3 fl3 up3 => ?_
    have J3 : Inv X pins σ' H' { s' with heap := h3 } := J.landed nb fl3.1 (up.trans up3) os ag
    obtain ⟨oe3, vs3, he3, hz3, hd3⟩ := fl3.there
    have notFr : ∀ {h : Heap} {o : Obj} {vs : Array Value}, h.FunFrames B (X.env :: X.outer) → h.get? a = some o → o.data = .fields vs → a ∉ frs (X.env :: X.outer) := fun {h o vs} ff e dd hm => by
      obtain ⟨_, o', e', hnf⟩ := ff.mem hm
      rw [e] at e'; cases e'
      exact hnf _ dd
    have nfr := notFr fl3.2.2.1 he3 hd3
    have nL : a ≠ X.env.locals := fun z => nfr (List.mem_filterMap.mpr ⟨X.env, List.mem_cons_self, by rw [hf, z]⟩)
    have nF : a ∉ X.fs := fun hm => by
      obtain ⟨e, he, q⟩ := List.mem_filterMap.mp hm
      exact nfr (List.mem_filterMap.mpr ⟨e, List.mem_cons_of_mem _ he, q⟩)
    have S3 := J3.suite he3 hd3 na nL nF
    have go : ∀ {hds' : List ExceptHandler} {l' : List (Value × (Addr → Value → Option Addr → TS))}, HdsAs X n hds' l' → wManyAs X.K i Wout D l' cls d σ' H' →
        wpAny (model X.prog X.w) X.A (handleBy (.ref a) X.env hds') (SP X pins D) X.xe { s' with heap := h3 } := by
      intro hds' l' hk
      induction hk with
      | nil =>
        intro w
        refine wpAny_handleBy_nil ?_
        obtain ⟨k1, k2, k3, oe, vs, T, oT, ts', he, hz, hd, h1, hr⟩ := id fl3
        unfold PySem.passOn
        refine wpAny_bind (wpAny_field he hd h1 ?_)
        rw [if_neg (show ¬ ((Value.ref T == Value.none) = true) from by simp)]
        have fin : wpAny (model X.prog X.w) X.A (setFlight (.ref a) X.env.frame) (fun _ s4 => wpAny (model X.prog X.w) X.A (throw (.ref a) : Sem Flow) (SP X pins D) X.xe s4) X.xe { s' with heap := h3 } := by
          rw [hf]
          refine HandSPX.setFlight_upZ fl3 fun h4 hh4 up4 => wpAny_throw (tk _ _ ?_)
          exact ⟨a, B, sI, pins, σ', H', cls, d, rfl, J, nb, (up.trans up3).trans up4, .inr (.inr (by rw [hs]; exact hh4)), na, os, ag, w⟩
        first
          | exact wpAny_bind (wpAny_pure (wpAny_bind fin))
          | exact wpAny_bind fin
      | @cons x c ts b₀ suite np pos' hds2 l2 hc hsu r ih =>
        intro w
        obtain ⟨b, hb1, hyes, hno⟩ := w
        refine wpAny_handleBy_cons (codeAny_handlers_test ?_) (by intro q; cases q)
        have LT : PySem.W.Looks (model X.prog X.w) h3 (typeOf (.ref a)) cls := fun A Q E s k q => wpAny_typeOf_ref (k _ _ he3) (by rw [hz3.1]; exact q)
        have LM := PySem.W.exm_one (M := model X.prog X.w) (J3.kIn) LT hb1
        have test : ∀ {Q : Value → Shared → Prop} {E : Value → Shared → Prop}, Q c { s' with heap := h3 } → wpAny (model X.prog X.w) (X.A.mark (some (.ref a))) (eval (.Name x np) X.env) Q E { s' with heap := h3 } := fun {Q E} q => by
          obtain ⟨hg, hdbg, hm | ⟨hm, hv, hnn⟩⟩ := hc
          · exact ld_glob (X := X.suite a ((a, oe3) :: (X.pn ++ pins))) S3 hg hm q hdbg
          · exact ld_blt (X := X.suite a ((a, oe3) :: (X.pn ++ pins))) S3 hg hm hv q hnn hdbg
        refine test (LM.here ?_)
        cases b with
        | true =>
          refine codeAny_handlers_suite_as ?_
          refine HandSPX.lands_againZ fl3 fun h4 fl4 up4 => ?_
          have J4 : Inv X pins σ' H' { s' with heap := h4 } := J.landed nb fl4.1 ((up.trans up3).trans up4) os ag
          obtain ⟨oe4, vs4, he4, hz4, hd4⟩ := fl4.there
          have S4 := J4.suite he4 hd4 na nL nF
          refine store_ok (X := X.suite a ((a, oe4) :: (X.pn ++ pins))) (v := .ref a) S4 hN hi hloc rfl (fun s5 S5 => ?_) (.inr hln)
          refine wpAny_mono ((hsu a oe4 cls d (X.pn ++ pins) hz4 ⟨_, hd4⟩).run [] s5 _ H' _ S5 (hyes rfl a na)) (fun f s6 hsp => ?_) (fun _ _ z => False.elim z)
          have end_ : ∀ {σ6 : L2.St} {H6 : Hp} {Q : Shared → Prop}, Inv (X.suite a ((a, oe4) :: (X.pn ++ pins))) [] σ6 H6 s6 → (∀ s7, Inv X pins (σ6.set i none) H6 s7 → Q s7) →
              wpAny (model X.prog X.w) X.A (do bindName X.env n .none; unbindBehindTheSuite X.env n pos') (fun _ s7 => Q s7) X.xe s6 := fun {σ6 H6 Q} S6 hq => gone_ok (S6.unsuite ok) hN hi hln hq
          cases f with
          | next =>
            obtain ⟨σ6, H6, S6, q6⟩ := hsp
            exact end_ S6 fun s7 J7 => ⟨_, _, J7, q6⟩
          | brk =>
            obtain ⟨σ6, H6, S6, q6⟩ := hsp
            exact end_ S6 fun s7 J7 => ⟨_, _, J7, q6⟩
          | cont =>
            obtain ⟨σ6, H6, S6, q6⟩ := hsp
            exact end_ S6 fun s7 J7 => ⟨_, _, J7, q6⟩
          | ret u =>
            obtain ⟨v6, σ6, H6, S6, r6, q6⟩ := hsp
            exact end_ S6 fun s7 J7 => ⟨_, _, _, J7, r6, q6⟩
        | false =>
          show wpAny _ X.A (handleBy (.ref a) X.env hds2) _ _ _
          exact ih (hno rfl)
    exact go hh w
  · cases f with
    | next =>
      obtain ⟨σ', H', J', q⟩ := hsp
      exact wpAny_execs_nil ⟨σ', H', J'.ofTry ok, q⟩
    | brk =>
      obtain ⟨σ', H', J', q⟩ := hsp
      exact ⟨σ', H', J'.ofTry ok, q⟩
    | cont =>
      obtain ⟨σ', H', J', q⟩ := hsp
      exact ⟨σ', H', J'.ofTry ok, q⟩
    | ret u =>
      obtain ⟨v, σ', H', J', r, q⟩ := hsp
      exact ⟨v, σ', H', J'.ofTry ok, r, q⟩
end
end L2
/-! isinstance of a caught error of an own class, with or without own fields -/
namespace PySem.W
open PySem PySem.Spec PySem.Calls PyProof.Rows
section
variable {prog : Program} {w : World} {A : Around} {E : Value → Shared → Prop} {s : Shared} {K : Frag} {x D : Addr} {ox : Obj} {od : Option Obj}
theorem findObj_dataG {C : Addr} {name : Str} {a g : Value} (hc : (clsIn K C).isSome = true) (ha : findIn K (.ref C) name = some (some a)) (hg : specialIn K a "__get__" = some (some g)) (ht : takesIn K a = some true) : findObj K C od name = some (.bind g a) := by
  obtain ⟨cd, hc⟩ := Option.isSome_iff_exists.mp hc
  unfold findObj
  rw [hc, Option.bind_some, ha, Option.bind_some]
  simp [hg, ht]
theorem kin_classG {Q : Option Value → Shared → Prop} (hga : findIn K (.ref D) "__getattribute__" = some (some (.builtin "BaseException.__getattribute__"))) (hgt : findIn K (.ref D) "__getattr__" = some none) (hsub : subIn K (.ref D) (.type "BaseException") = some true)
    (hdct : hasDictIn K D = true) (ha : findIn K (.ref D) "__class__" = some (some (.builtin "object.__class__")))
    (hn : specialIn K (.builtin "object.__class__") "__get__" = some (some (.builtin "getset_descriptor.__get__"))) (htk : takesIn K (.builtin "object.__class__") = some true) (hm : mroIn K D (.type "object") = some true)
    (X : K.In s.heap) (I : InstAt s.heap x ox D od) (h : Q (some (.ref D)) { s with toks := s.toks + 1 }) : wpAny (model prog w) A (getAttr? (.ref x) "__class__") Q E s := by
  have hf : findObj K D od "__class__" = some (.bind (.builtin "getset_descriptor.__get__") (.builtin "object.__class__")) := findObj_dataG (by obtain ⟨cd, hc, _⟩ := any_some hdct; rw [hc]; rfl) ha hn htk
  obtain ⟨hp, g, d, t, os⟩ := s
  have L0 := I.type (M := model prog w)
  have L1 := looks_findIn (M := model prog w) X hga
  have L2 := looks_findIn (M := model prog w) X hgt
  have L3 := looks_find (M := model prog w) X I hf
  have sub : Looks (model prog w) hp (isInstance (.ref x) (.type "BaseException")) true := L0.andThen (looks_subIn X hsub)
  have hx0 : (false && onTheHeap (Value.builtin "BaseException.__getattribute__")) = false := rfl
  have hx2 : (Value.builtin "BaseException.__getattribute__" == Value.builtin "object.__getattribute__") = false := by decide +kernel
  have hx1 : (onTheHeap (Value.ref D) && Value.builtin "BaseException.__getattribute__" == Value.builtin "object.__getattribute__") = false := by rw [hx2]; rfl
  unfold getAttr? getAttrBy? getAttrBy
  refine wpAny_bind (wpAny_mkText (wpAny_bind (wpAny_attempt (wpAny_holding (wpAny_bind (L0.at (wpAny_bind (L1.at ?_))))))))
  show wpAny _ _ (if (onTheHeap (Value.ref D) && Value.builtin "BaseException.__getattribute__" == Value.builtin "object.__getattribute__") = true then _ else _) _ _ _
  rw [hx1, if_neg Bool.false_ne_true]
  unfold getAttrByItsOwn hookBefore
  refine wpAny_bind ?_
  rw [if_pos (show onTheHeap (Value.ref D) = true from rfl)]
  refine L2.at ?_
  refine wpAny_bind (wpAny_attempt (wpAny_holding ?_))
  unfold callGetattribute
  rw [hx0, if_neg Bool.false_ne_true]
  unfold boundAndCalled
  rw [PySem.F.excAttr_ValueError.ga.bind (.ref x)]
  refine wpAny_bind (wpAny_pure ?_)
  show wpAny _ _ (call (.builtin "BaseException.__getattribute__") [.ref x, .str "__class__" t]) _ _ _
  refine wpAny_call (codeAny_call_builtin PySem.F.excAttr_ValueError.ga.plain PySem.F.entry_bexc_ga ?_)
  refine @check_slot (model prog w) _ _ ⟨hp, g, d, t + 1, os⟩ "BaseException.__getattribute__" "BaseException" "__getattribute__" (.ref x) [.str "__class__" t] [] _ (by decide +kernel) (by decide +kernel) sub (PySem.F.args_bexc_ga (.ref x) (.str "__class__" t)) ?_
  unfold Builtin.«object.__getattribute__»
  refine wpAny_bind (wpAny_of_eq (a := ((Value.ref x : Value), [Value.str "__class__" t])) (by first | rfl | (simp only [slotArgs]; rfl)) ?_)
  refine wpAny_bind (wpAny_pure (wpAny_bind (L0.at (wpAny_bind (L3.at ?_)))))
  show wpAny _ _ (holding [Value.builtin "object.__class__"] (call (.builtin "getset_descriptor.__get__") [.builtin "object.__class__", .ref x, .ref D]) >>= ret) _ _ _
  refine wpAny_bind (wpAny_holding (wpAny_call (class_get (s := ⟨hp, g, d, t + 1, os⟩) (ox := ox) (od := od) X I hm ?_)))
  refine wpAny_pure ?_
  show wpAny _ _ (handedOut (.ref D)) _ _ _
  rw [handedOut_of (v := .ref D) rfl]
  first
    | exact wpAny_pure (wpAny_pure h)
    | exact wpAny_pure h
    | exact wpAny_pure (wpAny_bind (wpAny_pure (wpAny_pure h)))
theorem kitx_excG (hga : findIn K (.ref D) "__getattribute__" = some (some (.builtin "BaseException.__getattribute__"))) (hgt : findIn K (.ref D) "__getattr__" = some none) (hsub : subIn K (.ref D) (.type "BaseException") = some true) (hdct : hasDictIn K D = true) (ha : findIn K (.ref D) "__class__" = some (some (.builtin "object.__class__")))
    (hn : specialIn K (.builtin "object.__class__") "__get__" = some (some (.builtin "getset_descriptor.__get__"))) (htk : takesIn K (.builtin "object.__class__") = some true) (hm : mroIn K D (.type "object") = some true) :
    KitX K (.ref x) (.ref D) (fun h => ∃ od, InstAt h x ox D od) where
  ty := fun _ _ _ ⟨_, I⟩ => I.type
  it := fun _ _ X _ => by
    obtain ⟨cdD, hcD, _⟩ := any_some hdct
    unfold clsIn at hcD
    split at hcD
    · rename_i c' d' cd' sl' ho
      intro A' Q' E' s' k q
      unfold isType loadHead
      exact wpAny_bind (wpAny_loadPart (k _ _ (X _ _ ho)) (wpAny_pure q))
    · cases hcD
  ne := fun h tp dd its n sl X htp => by
    obtain ⟨cdD, hcD, _⟩ := any_some hdct
    refine Bool.eq_false_iff.mpr fun q => ?_
    have e : D = tp := Value.ref.inj (beq_iff_eq.mp q)
    subst e
    unfold clsIn at hcD
    split at hcD
    · rename_i c' d' cd' sl' ho
      have z := (X _ _ ho).symm.trans htp
      cases z
    · cases hcD
  ca := fun X ⟨_, I⟩ k => kin_classG hga hgt hsub hdct ha hn htk hm X I k
end
end PySem.W
namespace L2
open PySem PySem.Spec PyProof.Rows
/-- isinstance(e, c), e the exception that the suite holds; at d its own fields -/
def rIsG (K : PySem.W.Frag) (D a : Addr) (d : Option Addr) : List V → Hp → VK → Prop := fun xs H Q => ∃ (c : V) (cv : Value) (b : Bool), xs = [.ref a, c] ∧ (∀ u, RelV c u → u = cv) ∧ PySem.W.kitOne K (.ref D) cv = some b ∧ (∀ dd, d = some dd → ∃ fs, H dd = some (.xd fs)) ∧ Q (.bl b) H
theorem call_isG {X : Cx} {a D : Addr} {d : Option Addr} {oe : Obj} {pn : List (Addr × Obj)} (C : ExcC X.K D) (hz : Zc (.ref D) d oe) (hf : ∃ vs, oe.data = .fields vs) : CallR (X.suite a ((a, oe) :: pn)) (.builtin "isinstance") (rIsG X.K D a d) := by
  intro pins s σ H xs us Q I r h
  obtain ⟨c, cv, b, rfl, hcv, e, hdd, q⟩ := h
  cases r with
  | cons rx rr =>
    cases rr with
    | cons rt rr =>
      cases rr
      cases rx
      have ec := hcv _ rt
      subst ec
      obtain ⟨hget, _⟩ := I.pin (a, oe) (List.mem_append.mpr (.inl List.mem_cons_self))
      obtain ⟨vs, hv⟩ := hf
      have J : ∃ od, PySem.W.InstAt s.heap a oe D od := by
        cases d with
        | none => exact ⟨none, hget, hz.1, by unfold PySem.W.notCls; rw [hv] <;> rfl, by rw [hz.2]; trivial⟩
        | some dd =>
          obtain ⟨fs, ed⟩ := hdd dd rfl
          have hx : ObjOk X.prog X.w H s.heap dd (.xd fs) := I.hok dd _ ed
          obtain ⟨mA, hns, _⟩ := hx
          obtain ⟨od, ho, _⟩ := lookIn_ns hns
          exact ⟨some od, hget, hz.1, by unfold PySem.W.notCls; rw [hv] <;> rfl, by rw [hz.2]; exact ho⟩
      exact PySem.W.kia_one (PySem.W.kitx_excG C.hg C.hk C.hs C.hd C.ha C.hn C.ht C.hm) I.kIn J e (fun z => nomatch z) fun tk => ⟨.bl b, H, I.kept (t' := tk) fun _ _ z => z, rfl, q⟩
end L2

set_option Elab.async false
set_option linter.all false
set_option maxRecDepth 100000
set_option maxHeartbeats 4000000
namespace RL
open PySem PySem.Spec PyProof.Rows L2
/-! ### what a def that tells of an error makes of it -/
/-- what the written part says of an error class -/
structure ClsTxt (K : PySem.W.Frag) (C Bough : Addr) (fn : Str) : Prop where
  xf : XfC K C
  ex : ExcC K C
  no : PySem.W.findIn K (.ref C) fn = some none
  b1 : PySem.W.kitOne K (.ref C) (.ref Bough) = some true
  b2 : PySem.W.kitOne K (.ref C) (.type "ValueError") = some true
def tClause (K : PySem.W.Frag) (kind fn : Str) (C Bough a : Addr) (d : Option Addr) (i : Nat) : TS :=
  tRet (tTup (tCons (tC (.str kind)) (tCons (tXf a (.ref C) d C fn (tVar i)) (tCons (tAndV (tCB (rIsG K C a d) (tCons (tVar i) (tCons (tC (.ref Bough)) tNil))) (tCB (rIsG K C a d) (tCons (tVar i) (tCons (tC (.ty "ValueError")) tNil)))) tNil))))
theorem clause_ok {K : PySem.W.Frag} {kind fn : Str} {C Bough a dd : Addr} {i : Nat} {D : Ends} {σ : L2.St} {H : Hp} {z : Str} (T : ClsTxt K C Bough fn) (hσ : σ[i]? = some (some (.ref a))) (hH : H dd = some (.xd [(fn, .str z)]))
    (h : ∀ p, H p = none → D.rt (.ref p) (upd H p (.tup [.str kind, .str z, .bl true]))) : tClause K kind fn C Bough a (some dd) i D σ H := by
  have hl : List.lookup fn [(fn, V.str z)] = some (V.str z) := by rw [lookup_put, if_pos rfl]
  refine ⟨_, hσ, rfl, rfl, dd, _, .str z, rfl, hH, hl, _, hσ, .ref Bough, .ref Bough, true, rfl, fun u e => e, T.b1, fun d' e => ?_, true, rfl, ?_⟩
  · cases e; exact ⟨_, hH⟩
  · refine ⟨_, hσ, .ty "ValueError", .type "ValueError", true, rfl, fun u e => e, T.b2, fun d' e => ?_, ?_, h⟩
    · cases e; exact ⟨_, hH⟩
    · show 3 ≤ sizeLine
      rw [sizeLine_eq]; decide
theorem pss_guard {X : Cx} {φ : Prop} {st : List Stmt} {t : TS} (h : φ → PSs X st t) : PSs X st (fun D σ H => φ ∧ t D σ H) := ⟨fun pins s σ H D I q => (h q.1).run pins s σ H D I q.2⟩
theorem pss_len {X : Cx} {st : List Stmt} {t : TS} (h : PSs X st t) : PSs X st (fun D σ H => σ.length = X.N.length → t D σ H) := ⟨fun pins s σ H D I q => h.run pins s σ H D I (q I.len)⟩
def tsCl (K : PySem.W.Frag) (n : Nat) (kind fn : Str) (C Bough : Addr) (i : Nat) : Addr → Value → Option Addr → TS := fun a cls d D σ H => cls = .ref C ∧ (σ.length = n → tClause K kind fn C Bough a d i D σ H)
theorem pss_clause {X : Cx} {kind fn e : Str} {C Bough : Addr} {i j k : Nat} {a : Addr} {oe : Obj} {cls : Value} {d : Option Addr} {pn : List (Addr × Obj)} {p1 p2 p3 p4 p5 p6 p7 p8 p9 p10 p11 p12 p13 p14 : Pos} (T : ClsTxt X.K C Bough fn) (hi : X.N[i]? = some e) (hv : Vis X.env.scope e) (he : (e == ("__debug__" : Str)) = false) (he2 : (e == ("__classdict__" : Str)) = false)
    (g1 : Gl X "isinstance") (m1 : X.mg "isinstance" = none) (g2 : Gl X "BoughError") (m2 : X.mg "BoughError" = some (.ref Bough)) (g3 : Gl X "ValueError") (m3 : X.mg "ValueError" = none) (hz : Zc cls d oe) (hf : ∃ vs, oe.data = .fields vs) :
    PSs (X.suite a ((a, oe) :: pn)) [.Return (some (.Tuple [.Constant (.str kind) j p1, .Attribute (.Name e p2) fn p3, .BoolOp .And [.Call (.Name "isinstance" p4) [.Name e p5, .Name "BoughError" p6] [] p7, .Call (.Name "isinstance" p8) [.Name e p9, .Name "ValueError" p10] [] p11] p12] k p13)) p14] (tsCl X.K X.N.length kind fn C Bough i a cls d) := by
  refine pss_guard fun hc => ?_
  subst hc
  refine pss_len (X := X.suite a ((a, oe) :: pn)) ?_
  have g1' : Gl (X.suite a ((a, oe) :: pn)) "isinstance" := g1
  have g2' : Gl (X.suite a ((a, oe) :: pn)) "BoughError" := g2
  have g3' : Gl (X.suite a ((a, oe) :: pn)) "ValueError" := g3
  have pv : ∀ p, PE (X.suite a ((a, oe) :: pn)) (.Name e p) (tVar i) := fun p => pe_var (X := X.suite a ((a, oe) :: pn)) hi hv he he2
  refine pss_one (ps_ret (pe_tup (pa_cons pe_str (pa_cons (pe_xf T.xf T.no hz hf (pv p2)) (pa_cons (pe_and (pe_callB (call_isG T.ex hz hf) g1' m1 PyProof.Rows.boot_isinstance (pa_cons (pv p5) (pa_cons (pe_glob (v := .ref Bough) g2' m2 rfl (by decide)) pa_nil rfl) rfl) (by decide) (by decide)) (pe_one (pe_callB (call_isG T.ex hz hf) g1' m1 PyProof.Rows.boot_isinstance (pa_cons (pv p9) (pa_cons (pe_bltn (v := .ty "ValueError") g3' m3 PyProof.Rows.Boot.«ValueError» rfl (by decide) (by decide)) pa_nil rfl) rfl) (by decide) (by decide)))) pa_nil rfl) rfl) rfl)))
/-- told: what the call of the lambda is worth, turned -/
def heardR (CB CR : Addr) : Res D → Res D
  | .ok _ c => .ok (.tup []) c
  | .err x c => (match x.fs with
    | [(f, .str z)] => if x.C = CB ∧ f = "name" then .ok (.tup [.str "bad", .str z, .bl true]) c else if x.C = CR ∧ f = "why" ∧ CR ≠ CB then .ok (.tup [.str "refused", .str z, .bl true]) c else .bad
    | _ => .bad)
  | .bad => .bad
def TTh (K : PySem.W.Frag) (CB CR : Addr) : (XK → Hp → VK → Prop) → Hp → VK → Prop := fun tl H Q => ∃ (r o : List Addr) (c : Cs) (L : Cs → Res D), Cells K r o c H ∧
  (∀ (r' : List Addr) (H' : Hp) (E' : XK) (Q' : VK), Step r H r' H' → Cells K r' o c H' → OkG K (WF E') (Is K) r' o H' [] Q' (L c) → tl E' H' Q') ∧ OkG K (fun _ _ _ _ => False) (Is K) r o H [] Q (heardR CB CR (L c))
/-- the text of such a def -/
structure HeardTxt (K : PySem.W.Frag) (mg : Str → Option Value) (CB CR CU Bough : Addr) : Prop where
  tB : ClsTxt K CB Bough "name"
  tR : ClsTxt K CR Bough "why"
  mB : mg "BadArgument" = some (.ref CB)
  mR : mg "Refused" = some (.ref CR)
  mU : mg "Unread" = some (.ref CU)
  mG : mg "BoughError" = some (.ref Bough)
  mi : mg "isinstance" = none
  mv : mg "ValueError" = none
  eBB : PySem.W.exmOne K (.ref CB) (.ref CB) = some true
  eRB : PySem.W.exmOne K (.ref CR) (.ref CB) = some false
  eRR : PySem.W.exmOne K (.ref CR) (.ref CR) = some true
section
variable {X : Cx} {CB CR CU Bough : Addr}
theorem heard_gives {x q : Str} {sg : Scope} {g : Addr} {cdg : Value} {j1 j2 k1 k2 k3 : Nat} {su : List Stmt} {s0 : Stmt}
    {p1 p2 p3 p4 p5 p6 a1 a2 a3 a4 a5 a6 a7 a8 a9 a10 a11 a12 a13 a14 b1 b2 b3 b4 b5 b6 b7 b8 b9 b10 b11 b12 b13 b14 n1 n2 n3 n4 n5 n6 : Pos} (T : HeardTxt X.K X.mg CB CR CU Bough)
    (l1 : sg.names.lookup ("ask" : Str) = some .local) (l2 : sg.names.lookup ("e" : Str) = some .local) (l3 : sg.names.lookup ("BadArgument" : Str) = some .globalImplicit) (l4 : sg.names.lookup ("isinstance" : Str) = some .globalImplicit) (l5 : sg.names.lookup ("BoughError" : Str) = some .globalImplicit)
    (l6 : sg.names.lookup ("ValueError" : Str) = some .globalImplicit) (l7 : sg.names.lookup ("Refused" : Str) = some .globalImplicit) (l8 : sg.names.lookup ("Unread" : Str) = some .globalImplicit) :
    LamX.GivesTo X ["ask", "e"] x sg g cdg [.Try [.Expr (.Call (.Name "ask" p1) [] [] p2) p3]
      [.ExceptHandler (some (.Name "BadArgument" n1)) (some "e") [.Return (some (.Tuple [.Constant (.str "bad") j1 a1, .Attribute (.Name "e" a2) "name" a3, .BoolOp .And [.Call (.Name "isinstance" a4) [.Name "e" a5, .Name "BoughError" a6] [] a7, .Call (.Name "isinstance" a8) [.Name "e" a9, .Name "ValueError" a10] [] a11] a12] k1 a13)) a14] n2,
       .ExceptHandler (some (.Name "Refused" n3)) (some "e") [.Return (some (.Tuple [.Constant (.str "refused") j2 b1, .Attribute (.Name "e" b2) "why" b3, .BoolOp .And [.Call (.Name "isinstance" b4) [.Name "e" b5, .Name "BoughError" b6] [] b7, .Call (.Name "isinstance" b8) [.Name "e" b9, .Name "ValueError" b10] [] b11] b12] k2 b13)) b14] n4,
       .ExceptHandler (some (.Name "Unread" n5)) (some "e") (s0 :: su) n6] [] [] p4, .Return (some (.Tuple [] k3 p5)) p6] "ask" q (TTh X.K CB CR) := by
  intro f c' s H Q tl act hc h
  obtain ⟨r, o, c, L, hcl, htl, hres⟩ := h
  generalize hY : (cxOf C8.CX0 X.prog X.w X.K X.mg X.base ["ask", "e"] x sg g cdg X.A X.stack s H C8.E0).nox = Y
  have Yk : Y.K = X.K := by rw [← hY]; rfl
  have Ym : Y.mg = X.mg := by rw [← hY]; rfl
  have YN : Y.N = [("ask" : Str), "e"] := by rw [← hY]; rfl
  have Ysc : Y.env.scope = sg := by rw [← hY]; rfl
  have gl : ∀ {z : Str}, sg.names.lookup z = some .globalImplicit → Gl Y z := fun {z} e => by rw [← hY]; exact e
  have T' : HeardTxt Y.K Y.mg CB CR CU Bough := by rw [Yk, Ym]; exact T
  have he : Vis Y.env.scope ("e" : Str) := by rw [Ysc]; exact .inl l2
  have hN : Y.N.Nodup := by rw [YN]; decide
  have hi : Y.N[1]? = some ("e" : Str) := by rw [YN]; rfl
  have hln : Y.env.kindOf "e" = some .local := by rw [← hY]; exact l2
  have clB : ∀ (a : Addr) (oe : Obj) (cls : Value) (d : Option Addr) (pn : List (Addr × Obj)), Zc cls d oe → (∃ vs, oe.data = .fields vs) → PSs (Y.suite a ((a, oe) :: pn)) [.Return (some (.Tuple [.Constant (.str "bad") j1 a1, .Attribute (.Name "e" a2) "name" a3, .BoolOp .And [.Call (.Name "isinstance" a4) [.Name "e" a5, .Name "BoughError" a6] [] a7, .Call (.Name "isinstance" a8) [.Name "e" a9, .Name "ValueError" a10] [] a11] a12] k1 a13)) a14] (tsCl Y.K Y.N.length "bad" "name" CB Bough 1 a cls d) := fun a oe cls d pn hz hf =>
    pss_clause T'.tB hi he (by decide) (by decide) (gl l4) T'.mi (gl l5) T'.mG (gl l6) T'.mv hz hf
  have clR : ∀ (a : Addr) (oe : Obj) (cls : Value) (d : Option Addr) (pn : List (Addr × Obj)), Zc cls d oe → (∃ vs, oe.data = .fields vs) → PSs (Y.suite a ((a, oe) :: pn)) [.Return (some (.Tuple [.Constant (.str "refused") j2 b1, .Attribute (.Name "e" b2) "why" b3, .BoolOp .And [.Call (.Name "isinstance" b4) [.Name "e" b5, .Name "BoughError" b6] [] b7, .Call (.Name "isinstance" b8) [.Name "e" b9, .Name "ValueError" b10] [] b11] b12] k2 b13)) b14] (tsCl Y.K Y.N.length "refused" "why" CR Bough 1 a cls d) := fun a oe cls d pn hz hf =>
    pss_clause T'.tR hi he (by decide) (by decide) (gl l4) T'.mi (gl l5) T'.mG (gl l6) T'.mv hz hf
  have dead : ∀ (a : Addr) (oe : Obj) (cls : Value) (d : Option Addr) (pn : List (Addr × Obj)), Zc cls d oe → (∃ vs, oe.data = .fields vs) → PSs (Y.suite a ((a, oe) :: pn)) (s0 :: su) ((fun _ _ _ _ _ _ => False : Addr → Value → Option Addr → TS) a cls d) := fun a oe cls d pn hz hf => ⟨fun _ _ _ _ _ _ z => z.elim⟩
  refine ⟨_, pss_cons (ps_try_many_as (X := Y) (n := "e") (i := 1) (l := [(.ref CB, tsCl Y.K Y.N.length "bad" "name" CB Bough 1), (.ref CR, tsCl Y.K Y.N.length "refused" "why" CR Bough 1), (.ref CU, fun _ _ _ _ _ _ => False)])
      (tb := fun W D σ H => ∃ Ech : XK, (∀ cls d σ' H', Ech cls d H' → W cls d σ' H') ∧ σ[0]? = some (some (.ref f)) ∧ H c' = some (LamX.CodeO c' q) ∧ tl Ech H fun _ H' => D.nx σ H')
      (by rw [← hY]; rfl) (by rw [← hY]; rfl) hN hi hln LamX.takes0 (fun W pn xe tk _ => ?_) (.cons ⟨gl l3, by decide, .inl T'.mB⟩ clB (.cons ⟨gl l7, by decide, .inl T'.mR⟩ clR (.cons ⟨gl l8, by decide, .inl T'.mU⟩ dead .nil)))) (pss_one (ps_ret (pe_tup pa_nil))), ?_⟩
  · refine ⟨fun pins s' σ H' D I h' => ?_⟩
    obtain ⟨Ech, hW, h1, h2, h3⟩ := h'
    have hp := act W pn xe Ech p1 p2 (by rw [← hY] at tk; exact tk) hW
    have hq := pss_one (ps_expr (pos := p3) hp rfl)
    subst hY
    exact hq.run pins s' σ H' D I ⟨h1, h2, h3⟩
  · -- the end
    refine ⟨fun cls d H' => (cls = .ref CB ∧ ∃ dd z, d = some dd ∧ H' dd = some (.xd [("name", .str z)]) ∧ ∀ p, H' p = none → Q (.ref p) (upd H' p (.tup [.str "bad", .str z, .bl true]))) ∨
      (cls = .ref CR ∧ ∃ dd z, d = some dd ∧ H' dd = some (.xd [("why", .str z)]) ∧ ∀ p, H' p = none → Q (.ref p) (upd H' p (.tup [.str "refused", .str z, .bl true]))), fun cls d σ' H' hE => ?_, rfl, hc, ?_⟩
    · have idx : ∀ a : Addr, (σ'.set 1 (some (V.ref a))).length = Y.N.length → (σ'.set 1 (some (V.ref a)))[1]? = some (some (V.ref a)) := fun a hl => by
        rw [YN, List.length_set] at hl
        rw [List.getElem?_set_self (by rw [hl]; decide)]
      rcases hE with ⟨rfl, dd, z, rfl, hd, hQ⟩ | ⟨rfl, dd, z, rfl, hd, hQ⟩
      · exact ⟨true, T'.eBB, fun _ a _ => ⟨rfl, fun hl => clause_ok T'.tB (idx a hl) hd hQ⟩, fun z => by cases z⟩
      · exact ⟨false, T'.eRB, fun z => (by cases z), fun _ => ⟨true, T'.eRR, fun _ a _ => ⟨rfl, fun hl => clause_ok T'.tR (idx a hl) hd hQ⟩, fun z => by cases z⟩⟩
    · refine htl r H _ _ Step.refl hcl ?_
      cases eL : L c with
      | bad => rw [eL] at hres; exact hres
      | ok d cF =>
        rw [eL] at hres
        intro r' H' v st hc' hv
        refine ⟨by show 0 ≤ sizeLine; exact Nat.zero_le _, fun p hp => ?_⟩
        exact hres r' _ _ (st.trans (Step.new hp)) (hc'.new hp) (Is.newTup hc' hp .nil)
      | err e cF =>
        rw [eL] at hres
        intro r' H' cls dx st hc' hx
        obtain ⟨ecls, d, vs, ed, hd, hnr, hno, hfs⟩ := hx
        obtain ⟨C, fs⟩ := e
        simp only at ecls hfs
        subst ecls; subst ed
        unfold heardR at hres
        simp only at hres
        split at hres
        · rename_i fn z
          have evs : vs = [(fn, .str z)] := by
            obtain ⟨e1, e2⟩ := hfs
            match vs, e1, e2 with
            | [(g, w)], e1, e2 =>
              simp only [List.map_cons, List.map_nil, List.cons.injEq, and_true] at e1
              cases e2 with
              | cons a b =>
                have := a.str_inv
                subst this
                rw [e1]
            | [], e1, _ => cases e1
            | _ :: _ :: _, e1, _ => simp at e1
          subst evs
          have fin : ∀ kind : Str, (∀ r' H' v, Step r H r' H' → Cells X.K r' o cF H' → Is X.K r' o H' (.tup [.str kind, .str z, .bl true]) v → Q v H') → ∀ p, H' p = none → Q (.ref p) (upd H' p (.tup [.str kind, .str z, .bl true])) := fun kind hk p hp =>
            hk r' _ _ (st.trans (Step.new hp)) (hc'.new hp) (Is.newTup hc' hp (.cons .str (.cons .str (.cons .bl .nil))))
          split at hres
          · rename_i hh
            obtain ⟨rfl, rfl⟩ := hh
            exact .inl ⟨rfl, d, z, rfl, hd, fin _ hres⟩
          · split at hres
            · rename_i hh
              obtain ⟨rfl, rfl, _⟩ := hh
              exact .inr ⟨rfl, d, z, rfl, hd, fin _ hres⟩
            · exact hres.elim
        · exact hres.elim
end
end RL

set_option Elab.async false
set_option linter.all false
set_option maxRecDepth 100000
set_option maxHeartbeats 4000000
namespace RL
open PySem PySem.Spec PyProof.Rows L2
section
variable {X : Cx} {pins : List (Addr × Obj)} {σ : L2.St} {H : Hp} {s : Shared} {r o : List Addr} {c : Cs}
theorem lam_make3 {cc P : Addr} {q : Str} {n : Nat} {params : Arguments} {body : Expr} {scope : Scope} {pos : Pos} {E : Value → Shared → Prop} {Q : Value → Shared → Prop} (I : Inv X pins σ H s) (TB : LamX.TabB X.base X.mg cc P) (hcode : X.env.code = .ref cc)
    (hcl : Cells X.K r o c H) (htab : c[n]? = some (.tab P q)) (hq : X.env.qual ++ "<lambda>" = q) (hdef : defaultsOf params X.env = ([], [])) (hfree : ∀ y ∈ scope.names, y.2 = .free → ∃ c, X.env.cells.lookup y.1 = some c)
    (h : ∀ (f c' : Addr) (pm ctv : Value) (H1 : Hp) (s' : Shared), Inv X pins σ H1 s' → Cells X.K r o c H1 → Step r H r H1 →
      s'.heap.get? f = some (PySem.W.kla_obj "<lambda>" q params body scope (cloFrom X.env.cells scope.names []) pm c' ctv) → H1 f = none → f ∉ frs X.stack → H1 c' = some (LamX.CodeO c' q) → Q (.ref f) s') :
    wpAny (model X.prog X.w) X.A (eval (.Lambda params body scope pos) X.env) Q E s := by
  subst hq
  obtain ⟨a0, ha0, rfl, ps, hP, ht, hco⟩ := hcl.get htab
  refine PySem.W.kla_eval hdef ?_
  have bP : s.heap.BuiltinsAt X.mg a0 := TB.bm.keeps I.bk
  have hP' : s.heap.get? a0 = some { cls := .none, data := .fields ps } := I.hok a0 _ hP
  have nofr : ∀ f, s.heap.objs.size ≤ f → f ∉ frs X.stack := fun f hf z => by
    rcases List.mem_cons.mp (I.stkSub _ z) with e | e
    · have h1 := I.lt
      rw [← e] at h1
      exact Nat.lt_irrefl _ (Nat.lt_of_lt_of_le h1 hf)
    · exact I.nofs hf e
  cases hc : codeAmong pos ps.toList with
  | none =>
    refine PySem.W.kla_makeFunction (mg := X.mg) (c := cc) (P := a0) (ps := ps) (closure_ok hfree) I.ok.glob (I.mod.glob.keeps I.bk) hcode (TB.code.keeps I.bk) hP' ht hc TB.gP bP fun c' ctv h' tk hx hge hlt hrec htb => ?_
    obtain ⟨c2, oc, vs, t, e2, hoc, hd, hv⟩ := hrec
    cases e2
    have hsz : s.heap.objs.size ≤ h'.objs.size := Nat.le_trans hge (Nat.le_of_lt hlt)
    have nC : H c' = none := I.hok.fresh hge
    have I1 := LamX.inv_table (t' := tk) (more := #[rawInt pos.line, rawInt pos.col, .ref c']) (h' := h'.push (PySem.W.kla_obj "<lambda>" (X.env.qual ++ "<lambda>") params body scope (cloFrom X.env.cells scope.names []) ((X.mg "__name__").getD .none) c' ctv)) I hP
      (fun b o hb e => Heap.get?_push_of_some _ (hx b o hb e)) (Heap.get?_push_of_some _ htb) hge ⟨oc, vs, t, Heap.get?_push_of_some _ hoc, hd, hv⟩
    have eL : (ps ++ #[rawInt pos.line, rawInt pos.col, .ref c']).toList = ps.toList ++ [rawInt pos.line, rawInt pos.col, .ref c'] := by simp
    obtain ⟨hc3, st3⟩ := hcl.tabled (ps' := ps ++ #[rawInt pos.line, rawInt pos.col, .ref c']) (cn := c') htab hP nC (by rw [eL]; exact PySem.TriplesOk_snoc _ _ _ _ ht) (fun pos' cv hcv => by rw [eL] at hcv; exact LamX.among_app _ ht hcv)
    refine h h'.objs.size c' ((X.mg "__name__").getD .none) ctv _ _ I1 hc3 st3 (Heap.get?_push_size _ rfl) ?_ (nofr _ hsz) upd_same
    have n1 : h'.objs.size ≠ c' := Nat.ne_of_gt hlt
    have n2 : h'.objs.size ≠ a0 := Nat.ne_of_gt (Nat.lt_of_lt_of_le (Heap.lt_size hP') hsz)
    rw [upd_ne n1, upd_ne n2]
    exact I.hok.fresh hsz
  | some cv =>
    obtain ⟨c', e, hco', _, _⟩ := hco pos cv hc
    subst e
    refine PySem.W.kla_makeFunctionHit (mg := X.mg) (c := cc) (P := a0) (ps := ps) (closure_ok hfree) I.ok.glob (I.mod.glob.keeps I.bk) hcode (TB.code.keeps I.bk) hP' ht hc bP fun ctv h' tk hx hsz => ?_
    have I1 : Inv X pins σ H { s with heap := h'.push (PySem.W.kla_obj "<lambda>" (X.env.qual ++ "<lambda>") params body scope (cloFrom X.env.cells scope.names []) ((X.mg "__name__").getD .none) c' ctv), toks := tk } := I.kept fun b o e => Heap.get?_push_of_some _ (hx b o e)
    exact h h'.objs.size c' ((X.mg "__name__").getD .none) ctv H _ I1 hcl Step.refl (Heap.get?_push_size _ rfl) (I.hok.fresh hsz) (nofr _ hsz) hco'
variable {W : WX}
def eLam (n : Nat) (P : Addr) (q : Str) (CB CR : Addr) (f : FE) : FE := fun s c => if hasTab c n P q = true then heardR CB CR (f s c) else .bad
/-- x(lambda: body), x a def that tells of errors -/
theorem re_lam {x a : Str} {g cc P : Addr} {k n : Nat} {q : Str} {CB CR : Addr} {f : FE} {pg : Arguments} {bg : List Stmt} {sg : Scope} {dV kV doc pm cdv ct oc : Value} {an od : Option Addr} {osl : Array (Option Value)} {Ng : List Str}
    {params : Arguments} {body : Expr} {scope : Scope} {p lpos pos : Pos} (hg : Gl X x) (hm : X.mg x = some (.ref g)) (hk : PySem.W.keepIn X.K (.ref g) = true)
    (lk : X.K.lookup g = some ⟨oc, od, .func (PySem.W.fnOf x x pg bg sg dV kV doc pm an cdv ct), osl⟩) (hcg : PySem.W.codeIn X.K cdv x = true) (hb : L2.Binds X.K (PySem.W.fnOf x x pg bg sg dV kV doc pm an cdv ct) [a] []) (Sg : FnScope Ng [a] sg) (hNg : Ng[0]? = some a) (hva : Vis sg a)
    (hG : LamX.GivesTo X Ng x sg g cdv bg a q (TTh X.K CB CR)) (TB : LamX.TabB X.base X.mg cc P) (hcode : X.env.code = .ref cc) (hq : X.env.qual ++ "<lambda>" = q) (hr : Room (k + 2) X.A) (L : LamX.LamS X.env.scope scope) (hdef : defaultsOf params X.env = ([], []))
    (hbind : ∀ (q : Str) (cl : List (Str × Addr)) (pm cv ctv : Value), bindArgs (PySem.W.kla_fn "<lambda>" q params body scope cl pm cv ctv) ⟨[], []⟩ = pure [])
    (hbody : ∀ (A : Around) (outer : List Env) (s : Shared) (H : Hp) (E : XK) (f' c' : Addr), Room k (A.deeper (LamX.lamEnv X scope s.heap.objs.size f' c')) → RE (LamX.lamCx X A outer s H E scope f' c') (WF E) body f)
    (hdb : (x == ("__debug__" : Str)) = false := by decide) (hd : (a == ("__debug__" : Str)) = false := by decide) (hcd : (a == ("__classdict__" : Str)) = false := by decide) :
    RE X W (.Call (.Name x p) [.Lambda params body scope lpos] [] pos) (eLam n P q CB CR f) := by
  refine ⟨tOfE X.K W (eLam n P q CB CR f), ⟨fun pins s σ H Q I h => ?_⟩, snd_ofE⟩
  obtain ⟨r, o, c, sl, hcl, hsl, hok⟩ := h
  unfold eLam at hok
  split at hok
  case isFalse => exact hok.elim
  rename_i htab
  have htab := hasTab_at htab
  refine wpAny_Call_Name_kw (ld_glob I hg hm ?_ hdb)
  refine PySem.W.callWith_K (h₀ := X.base) I.ok.mod.kin hk ?_ (by rfl) (by rfl)
  show wpAny _ _ (spliced ((false, eval (.Lambda params body scope lpos) X.env) :: backTo pos (starEach [] X.env))) _ _ s
  refine Calls.spliced_cons (lam_make3 I TB hcode hcl htab hq hdef (L.has I.ok) fun f' c' pm' ctv H1 s' I1 hc1 st1 hf hfn hfr hco => ?_)
  refine Calls.spliced_nil ⟨I1.kIn, ?_⟩
  subst hq
  have rc : codeAny (model X.prog X.w) X.A (.call (.ref g) ⟨[.ref f'], []⟩) (L2.CR C8.CX0 X.stack X.prog X.w H1 s' Q C8.E0) s' := by
    refine LamX.run_ofS (N := Ng) (ps := [a]) (us := [.ref f']) (vs := [.ref f']) lk hcg Sg hr I1.env0 (hb s' [.ref f'] I1.kIn rfl) (.cons rfl .nil) rfl fun hr' => ?_
    obtain ⟨t', ht', hq'⟩ := hG f' c' s' H1 Q (fun E H' Q' => tOfE X.K (WF E) f σ H' Q') (fun W pn xe E p1 p2 tk hW => LamX.pe_act (i := 0) I1 L hf hfn hfr (hbind _ _ _ _ _) tk hW hr' (fun A outer s H hr2 => (hbody A outer s H E f' c' hr2).canon) hNg hva hd hcd) hco
      ⟨r, o, c, fun c => f sl c, hc1, fun r2 H2 E2 Q2 st2 hc2 q2 => ⟨r2, o, c, sl, hc2, (hsl.mono st1).mono st2, by
        have q2 : OkG X.K (WF E2) (Is X.K) r2 o H2 [] Q2 (f sl c) := q2
        cases e : f sl c with
        | ok d c' => rw [e] at q2; exact q2
        | err x c' => rw [e] at q2; exact q2
        | bad => rw [e] at q2; exact q2⟩, by
        show OkG X.K _ (Is X.K) r o H1 [] Q (heardR CB CR (f sl c))
        cases e : heardR CB CR (f sl c) with
        | ok d c' => rw [e] at hok; exact OkG.step (x := Res.ok d c') st1 hok
        | err x c' =>
          exfalso
          cases e2 : f sl c with
          | ok d c2 => rw [e2] at e; cases e
          | bad => rw [e2] at e; cases e
          | err x2 c2 =>
            rw [e2] at e
            unfold heardR at e
            simp only at e
            split at e
            · split at e
              · cases e
              · split at e
                · cases e
                · cases e
            · cases e
        | bad => rw [e] at hok; exact hok⟩
    exact ⟨t', ht'.nox, hq'⟩
  refine wpAny_call (codeAny_mono rc fun r s2 hq => ?_)
  cases r with
  | error e => exact (show False from hq).elim
  | ok fl =>
    cases fl with
    | ret u => exact I1.after hq
    | next => exact False.elim hq
    | brk => exact False.elim hq
    | cont => exact False.elim hq
end
end RL

set_option Elab.async false
set_option linter.all false
set_option maxRecDepth 100000
set_option maxHeartbeats 4000000
namespace RL
open PySem PySem.Spec PyProof.Rows L2
/-! ### some more rules -/
section
variable {X : Cx} {W : WX} {K : PySem.W.Frag}
def oMulA : D → D → Cs → Res D := fun d e c => match d with | .tup _ => oMulT d e c | _ => oMul d e c
theorem ro_mulA {X : Cx} : RO X W (binaryOp .Mult) oMulA := by
  obtain ⟨q1, h1, h2⟩ := ro_mul (X := X) (W := W)
  obtain ⟨q2, h3, h4⟩ := ro_mulT (X := X) (W := W)
  refine ⟨_, h1.or h3, fun r o c H t Q d e x y hc hd he h => ?_⟩
  cases d with
  | tup l => exact .inr (h4 r o c H t Q _ e x y hc hd he h)
  | _ => exact .inl (h2 r o c H t Q _ e x y hc hd he h)
def eNeg (f : FE) : FE := fun s c => (f s c).bind fun d c1 => match d with | .int i => .ok (.int (-i)) c1 | _ => .bad
theorem re_neg {e : Expr} {f : FE} {pos : Pos} (h : RE X W e f) : RE X W (.UnaryOp .USub e pos) (eNeg f) := by
  obtain ⟨_, h1, h2⟩ := h
  refine ⟨_, pe_un un_neg h1, fun r o c s H t Q hc hs q => h2 r o c s H t _ hc hs (ok_bind q fun d c1 r1 H1 v s1 hc1 hv q1 => ?_)⟩
  split at q1
  · exact ⟨_, hv.int_inv, q1.here hc1 .int⟩
  · exact q1.elim
/-- x += e, ints -/
def sAug (i : Nat) (f : FE) : FS := fun s c => match s[i]? with
  | some (some (.int a)) => (f s c).toS s fun d c1 => (match d with | .int b => .nx (s.set i (some (.int (a + b)))) c1 | _ => .bad)
  | _ => .bad
theorem rs_aug {i : Nat} {x : Str} {e : Expr} {f : FE} {p pos : Pos} (hN : X.N.Nodup) (hi : X.N[i]? = some x) (hx : Loc X.env.scope x) (he : RE X W e f) (hf : X.fn x = true ∨ X.env.scope.names.lookup x = some .local := by first | exact .inl rfl | exact .inr rfl | assumption) :
    RS X W (.AugAssign (.Name x p) .Add e pos) (sAug i f) := by
  obtain ⟨_, h1, h2⟩ := he
  refine ⟨_, ps_aug hN hi hx h1 in_add hf, fun r o c s H t D hc hs h => ?_⟩
  unfold sAug at h
  cases e1 : s[i]? with
  | none => simp only [e1] at h; exact h.elim
  | some z =>
    cases z with
    | none => simp only [e1] at h; exact h.elim
    | some d =>
      cases d with
      | int a =>
        simp only [e1] at h
        obtain ⟨v, hv1, hv2⟩ := hs.2 i _ e1
        refine ⟨v, hv1, h2 r o c s H t _ hc hs (ok_toS hs h fun d c1 r1 H1 w s1 hc1 hw q => ?_)⟩
        split at q
        · rename_i b
          exact ⟨a, b, hv2.int_inv, hw.int_inv, q _ _ _ Step.refl hc1 ((hs.mono s1).set i .int)⟩
        · exact q.elim
      | _ => simp only [e1] at h; exact h.elim
/-! ### constants of the module -/
theorem kon_int {mg : Str → Option Value} {x : Str} {i : Int} (h : ∃ t, mg x = some (.int i t)) : KonD K mg x (.int i) := by
  obtain ⟨t, h⟩ := h
  exact ⟨.int i, _, h, ⟨t, rfl⟩, fun _ _ _ => .int⟩
theorem kon_str {mg : Str → Option Value} {x : Str} {i : Str} (h : ∃ t, mg x = some (.str i t)) : KonD K mg x (.str i) := by
  obtain ⟨t, h⟩ := h
  exact ⟨.str i, _, h, ⟨t, rfl⟩, fun _ _ _ => .str⟩
/-- a written tuple of ints, texts -/
def dvD : He.Dv → D
  | .int i => .int i
  | .str x => .str x
  | .bl b => .bl b
  | _ => .non
def dvOk : He.Dv → Bool
  | .int _ => true
  | .str _ => true
  | .bl _ => true
  | .non => true
  | _ => false
theorem isL_dv {r o : List Addr} {H : Hp} : ∀ {vs : List He.Dv}, vs.all dvOk = true → IsL K r o H (vs.map dvD) (vs.map (He.Dv.v K))
  | [], _ => .nil
  | d :: ds, h => by
    obtain ⟨h1, h2⟩ := Bool.and_eq_true_iff.mp (show (dvOk d && ds.all dvOk) = true from h)
    refine .cons ?_ (isL_dv h2)
    cases d with
    | non => exact .non
    | bl b => exact .bl
    | int i => exact .int
    | str x => exact .str
    | _ => cases h1
theorem kon_tup {mg : Str → Option Value} {x : Str} {vs : List He.Dv} (hm : mg x = some (.ref (He.ga K x))) (h : He.tupB K x vs = true) (hd : vs.all dvOk = true) : KonD K mg x (.tup (vs.map dvD)) := by
  refine ⟨.ref (He.ga K x), _, hm, rfl, fun r o H => .tup ?_ (isL_dv hd)⟩
  rcases He.tupB_ok h (fun _ => none) with q | q
  · rcases q with z | ⟨_, z⟩ <;> cases z
  · exact .inr q
end
/-! ### defs by the head's facts -/
section
variable {P : Program} {w : World} {K : PySem.W.Frag} {mg : Str → Option Value} {base : Heap}
theorem fn_mkD {x qual : Str} {params : Arguments} {body : List Stmt} {scope : Scope} {f : Addr} {fd : FuncData} {N ps : List Str} {n m k : Nat} {b : FS} (F : FunD K x qual params body scope [] [] f fd) (S : FnScope N ps scope) (hn : ps.length = n) (hm : N.length = m)
    (hb : ∀ (cc : Addr) (A : Around) (outer : List Env) (s : Shared) (H : Hp) (E : XK), (∃ oc od osl, K.lookup f = some ⟨oc, od, .func fd, osl⟩ ∧ fd.code = .ref cc) → Room k (A.deeper (envOfC qual scope s.heap.objs.size f (.ref cc))) →
      RSs (cxOf (L2.CX P w) P w K mg base N qual scope f (.ref cc) A outer s H E) (WF E) body b) :
    FnOk P w K mg base (L2.CX P w) (k + 1) f fd ps (spR K (mkF n m b)) := by
  obtain ⟨oc, od, dV, kV, doc, pm, an, cdv, ct, osl, rfl, lk, hcd, _, _⟩ := F.ex
  obtain ⟨cc, rfl⟩ := He.codeIn_ref hcd
  refine fn_of lk hcd S (fun vs H Q E h => ?_) fun A outer s H vs Q E hr h => ?_
  · obtain ⟨r, o, c, ds, hc, hv, q⟩ := h
    unfold mkF at q
    by_cases e : ds.length = n
    · rw [← hv.length, e, hn]
    · rw [if_neg e] at q; exact q.elim
  · obtain ⟨r, o, c, ds, hc, hv, q⟩ := h
    obtain ⟨t, h1, h2⟩ := hb cc A outer s H E ⟨oc, od, osl, lk, rfl⟩ hr
    refine ⟨t, h1, ?_⟩
    unfold mkF at q
    by_cases e : ds.length = n
    · rw [if_pos e] at q
      refine h2 r o c (startD n m ds) H (start N vs) _ hc (SlOk.start hv hm e) ?_
      cases e2 : b (startD n m ds) c with
      | nx s' c' => rw [e2] at q; exact fun r' H' t' st hc' hs' => q r' H' .non st hc' .non
      | rt d c' => rw [e2] at q; exact fun r' H' v st hc' hv' => q r' H' v st hc' hv'
      | err x s' c' => rw [e2] at q; exact fun r' H' t' cls dx st hc' hs' hx => q r' H' cls dx st hc' hx
      | bk s' c' => rw [e2] at q; exact q.elim
      | ct s' c' => rw [e2] at q; exact q.elim
      | bad => rw [e2] at q; exact q.elim
    · rw [if_neg e] at q; exact q.elim
/-- a def of the module, as the head tells it -/
structure DefAt (K : PySem.W.Frag) (mg : Str → Option Value) (x : Str) (params : Arguments) (body : List Stmt) (scope : Scope) : Prop where
  d : ∃ fd, FunD K x x params body scope [] [] (He.ga K x) fd
  g : mg x = some (.ref (He.ga K x))
theorem ready_mk {x : Str} {params : Arguments} {body : List Stmt} {scope : Scope} {N ps : List Str} {n m k : Nat} {b : FS} (D : DefAt K mg x params body scope) (S : FnScope N ps scope) (hn : ps.length = n) (hm : N.length = m)
    (hbind : ∀ (kV doc pm : Value) (an : Option Addr) (cdv ct : Value) (us : List Value), us.length = ps.length → bindArgs (PySem.W.fnOf x x params body scope .none kV doc pm an cdv ct) ⟨us, []⟩ = pure (ps.zip us))
    (hb : ∀ (cc : Addr) (A : Around) (outer : List Env) (s : Shared) (H : Hp) (E : XK), cc = He.codeOf K (x, none) → Room k (A.deeper (envOfC x scope s.heap.objs.size (He.ga K x) (.ref cc))) →
      RSs (cxOf (L2.CX P w) P w K mg base N x scope (He.ga K x) (.ref cc) A outer s H E) (WF E) body b) : Ready P w K mg base (k + 1) x (mkF n m b) := by
  obtain ⟨fd, F⟩ := D.d
  refine ⟨He.ga K x, fd, ps, fn_mkD F S hn hm fun cc A outer s H E ⟨oc, od, osl, lk, e⟩ hr => hb cc A outer s H E ?_ hr, D.g, F.kp, F.bindsN hbind⟩
  exact (He.codeOf_eq (p := (x, none)) lk e).symm
theorem ready_bad {x : Str} {params : Arguments} {body : List Stmt} {scope : Scope} {ps : List Str} (D : DefAt K mg x params body scope) {k : Nat}
    (hbind : ∀ (kV doc pm : Value) (an : Option Addr) (cdv ct : Value) (us : List Value), us.length = ps.length → bindArgs (PySem.W.fnOf x x params body scope .none kV doc pm an cdv ct) ⟨us, []⟩ = pure (ps.zip us)) : Ready P w K mg base k x (fun _ _ => .bad) := by
  obtain ⟨fd, F⟩ := D.d
  refine ⟨He.ga K x, fd, ps, ⟨fun vs H Q E h => ?_, fun A outer s H args us vs Q E _ _ _ _ h => ?_⟩, D.g, F.kp, F.bindsN hbind⟩
  · obtain ⟨_, _, _, _, _, _, q⟩ := h
    exact q.elim
  · obtain ⟨_, _, _, _, _, _, q⟩ := h
    exact q.elim
/-- the def that tells of errors -/
def HeardFn (K : PySem.W.Frag) (mg : Str → Option Value) (x : Str) (CB CR : Addr) : Prop := ∃ (g : Addr) (pg : Arguments) (bg : List Stmt) (sg : Scope) (dV kV doc pm cdv ct oc : Value) (an od : Option Addr) (osl : Array (Option Value)), mg x = some (.ref g) ∧ PySem.W.keepIn K (.ref g) = true ∧
  K.lookup g = some ⟨oc, od, .func (PySem.W.fnOf x x pg bg sg dV kV doc pm an cdv ct), osl⟩ ∧ PySem.W.codeIn K cdv x = true ∧ L2.Binds K (PySem.W.fnOf x x pg bg sg dV kV doc pm an cdv ct) [("ask" : Str)] [] ∧ FnScope [("ask" : Str), "e"] ["ask"] sg ∧ Vis sg "ask" ∧
  ∀ (X : Cx) (q : Str), X.K = K → X.mg = mg → LamX.GivesTo X ["ask", "e"] x sg g cdv bg "ask" q (TTh K CB CR)
theorem heard_mk {x : Str} {params : Arguments} {body : List Stmt} {scope : Scope} {CB CR : Addr} (D : DefAt K mg x params body scope) (S : FnScope [("ask" : Str), "e"] ["ask"] scope) (hv : Vis scope "ask")
    (hbind : ∀ (kV doc pm : Value) (an : Option Addr) (cdv ct : Value) (us : List Value), us.length = 1 → bindArgs (PySem.W.fnOf x x params body scope .none kV doc pm an cdv ct) ⟨us, []⟩ = pure ([("ask" : Str)].zip us))
    (hG : ∀ (X : Cx) (q : Str) (g : Addr) (cdg : Value), X.K = K → X.mg = mg → LamX.GivesTo X ["ask", "e"] x scope g cdg body "ask" q (TTh K CB CR)) : HeardFn K mg x CB CR := by
  obtain ⟨fd, F⟩ := D.d
  have hb := F.bindsN (ps := ["ask"]) hbind
  have kp := F.kp
  obtain ⟨oc, od, dV, kV, doc, pm, an, cdv, ct, osl, rfl, lk, hcd, _, _⟩ := F.ex
  exact ⟨He.ga K x, params, body, scope, dV, kV, doc, pm, cdv, ct, oc, an, od, osl, D.g, kp, lk, hcd, hb, S, hv, fun X q h1 h2 => hG X q _ _ h1 h2⟩
end
section
variable {X : Cx} {W : WX}
theorem re_lamH {x : Str} {cc T : Addr} {k j n : Nat} {q : Str} {CB CR : Addr} {f : FE} {params : Arguments} {body : Expr} {scope : Scope} {p lpos pos : Pos} (h : HeardFn X.K X.mg x CB CR) (hg : Gl X x) (TB : LamX.TabB X.base X.mg cc T) (hcode : X.env.code = .ref cc) (hq : X.env.qual ++ "<lambda>" = q) (hr : Room j X.A) (hj : k + 2 ≤ j)
    (L : LamX.LamS X.env.scope scope) (hdef : defaultsOf params X.env = ([], [])) (hbind : ∀ (q : Str) (cl : List (Str × Addr)) (pm cv ctv : Value), bindArgs (PySem.W.kla_fn "<lambda>" q params body scope cl pm cv ctv) ⟨[], []⟩ = pure [])
    (hbody : ∀ (A : Around) (outer : List Env) (s : Shared) (H : Hp) (E : XK) (f' c' : Addr), Room k (A.deeper (LamX.lamEnv X scope s.heap.objs.size f' c')) → RE (LamX.lamCx X A outer s H E scope f' c') (WF E) body f) (hdb : (x == ("__debug__" : Str)) = false := by decide) :
    RE X W (.Call (.Name x p) [.Lambda params body scope lpos] [] pos) (eLam n T q CB CR f) := by
  obtain ⟨g, pg, bg, sg, dV, kV, doc, pm, cdv, ct, oc, an, od, osl, h1, h2, h3, h4, h5, h6, h7, h8⟩ := h
  exact re_lam hg h1 h2 h3 h4 h5 h6 rfl h7 (h8 X q rfl rfl) TB hcode hq (hr.mono hj) L hdef hbind hbody hdb
end
end RL

set_option Elab.async false
set_option linter.all false
set_option maxRecDepth 100000
set_option maxHeartbeats 4000000
namespace RL
open PySem PySem.Spec PyProof.Rows L2
open He (ga ma ba eqO eqO_ok)
/-! ### facts of error classes, decided -/
def oexB (K : PySem.W.Frag) (C : Addr) : Bool := match K.lookup C with
  | some ⟨.type t, _, .cls cd, sl⟩ => decide (t = "type") && (match cd.mro, sl.toList with
    | .ref C' :: bm, [_, _, _, _, some (.builtin n), _] => decide (C' = C) && (decide (n = "ValueError.__new__") && (!cd.hasDel && (cd.hasDict && PySem.HandSPX.refsVE bm)))
    | _, _ => false)
  | _ => false
theorem oexB_ok {K : PySem.W.Frag} {C : Addr} (h : oexB K C = true) : ∃ nm q N bs bm sn sub ab col dd k0 k1 k2 k3 k5, K.lookup C = some (excClassObj nm q C N bs bm true sn sub ab col dd k0 k1 k2 k3 k5 "ValueError.__new__") ∧ PySem.HandSPX.refsVE bm = true := by
  unfold oexB at h
  split at h
  · rename_i t dd cd sl hl
    obtain ⟨h1, h⟩ := ba h
    split at h
    · rename_i C' bm a0 a1 a2 a3 n a5 e1 e2
      obtain ⟨h2, h⟩ := ba h
      obtain ⟨h3, h⟩ := ba h
      obtain ⟨h4, h⟩ := ba h
      obtain ⟨h5, h6⟩ := ba h
      obtain ⟨nm, bs, mro, ns, q, hd, sn, sb, ab, col, del⟩ := cd
      have e3 := of_decide_eq_true h1
      have e4 := of_decide_eq_true h2
      have e5 := of_decide_eq_true h3
      simp only at e1 h4 h5
      subst e1 e3 e4 e5 h5
      have e6 : del = false := by simpa using h4
      subst e6
      refine ⟨nm, q, ns, bs, bm, sn, sb, ab, col, dd, a0, a1, a2, a3, a5, ?_, h6⟩
      rw [hl]
      have e7 : sl = #[a0, a1, a2, a3, some (.builtin "ValueError.__new__"), a5] := by
        rw [← Array.toArray_toList (xs := sl), e2]
      rw [e7]
    · cases h
  · cases h
/-- the facts of an error class x under b, whose field is fn -/
def clsB (K : PySem.W.Frag) (x b fn : Str) : Bool :=
  oexB K (ga K x) && (eqO (PySem.W.findIn K (.ref (ga K x)) "__setattr__") (some (some (.builtin "object.__setattr__"))) && (decide (PySem.W.subIn K (.ref (ga K x)) (.type "BaseException") = some true) &&
  (decide (PySem.W.typeIn K (.ref (ga K x)) = some (.type "type")) && (PySem.W.keepIn K (.ref (ga K x)) && (eqO (PySem.W.findIn K (.ref (ga K x)) fn) (some none) &&
  (eqO (PySem.W.findIn K (.ref (ga K x)) "__init__") (some (some (.ref (ma K (ga K x) "__init__")))) && (decide (PySem.W.typeIn K (.ref (ma K (ga K x) "__init__")) = some (.type "function")) && (xfB K (ga K x) &&
  (eqO (PySem.W.findIn K (.ref (ga K x)) "__class__") (some (some (.builtin "object.__class__"))) && (eqO (PySem.W.specialIn K (.builtin "object.__class__") "__get__") (some (some (.builtin "getset_descriptor.__get__"))) &&
  (decide (PySem.W.takesIn K (.builtin "object.__class__") = some true) && (decide (PySem.W.mroIn K (ga K x) (.type "object") = some true) && (decide (PySem.W.kitOne K (.ref (ga K x)) (.ref (ga K b)) = some true) &&
  (decide (PySem.W.kitOne K (.ref (ga K x)) (.type "ValueError") = some true) && (decide (PySem.W.mroIn K (ga K x) (.ref (ga K x)) = some true) && (decide (PySem.W.subIn K (.ref (ga K x)) (.type "ValueError") = some true) &&
  eqO (PySem.W.ks_superIn K (ga K x) (ga K x) "__init__") (some (some (.builtin "ValueError.__init__")))))))))))))))))))
structure ClsFacts (K : PySem.W.Frag) (x b fn : Str) : Prop where
  T : OexC K (ga K x)
  no : PySem.W.findIn K (.ref (ga K x)) fn = some none
  iC : PySem.W.findIn K (.ref (ga K x)) "__init__" = some (some (.ref (ma K (ga K x) "__init__")))
  tI : PySem.W.typeIn K (.ref (ma K (ga K x) "__init__")) = some (.type "function")
  cl : ClsTxt K (ga K x) (ga K b) fn
  self : PySem.W.mroIn K (ga K x) (.ref (ga K x)) = some true
  sub : PySem.W.subIn K (.ref (ga K x)) (.type "ValueError") = some true
  sup : PySem.W.ks_superIn K (ga K x) (ga K x) "__init__" = some (some (.builtin "ValueError.__init__"))
theorem clsB_ok {K : PySem.W.Frag} {x b fn : Str} (h : clsB K x b fn = true) : ClsFacts K x b fn := by
  unfold clsB at h
  obtain ⟨h1, h⟩ := ba h
  obtain ⟨h2, h⟩ := ba h
  obtain ⟨h3, h⟩ := ba h
  obtain ⟨h4, h⟩ := ba h
  obtain ⟨h5, h⟩ := ba h
  obtain ⟨h6, h⟩ := ba h
  obtain ⟨h7, h⟩ := ba h
  obtain ⟨h8, h⟩ := ba h
  obtain ⟨h9, h⟩ := ba h
  obtain ⟨h10, h⟩ := ba h
  obtain ⟨h11, h⟩ := ba h
  obtain ⟨h12, h⟩ := ba h
  obtain ⟨h13, h⟩ := ba h
  obtain ⟨h14, h⟩ := ba h
  obtain ⟨h15, h⟩ := ba h
  obtain ⟨h16, h⟩ := ba h
  obtain ⟨h17, h18⟩ := ba h
  have xf := xfB_ok h9
  exact ⟨⟨oexB_ok h1, eqO_ok h2, of_decide_eq_true h3, of_decide_eq_true h4, h5⟩, eqO_ok h6, eqO_ok h7, of_decide_eq_true h8,
    ⟨xf, ⟨xf.ga, xf.gg, xf.exC, xf.hdC, eqO_ok h10, eqO_ok h11, of_decide_eq_true h12, of_decide_eq_true h13⟩, eqO_ok h6, of_decide_eq_true h14, of_decide_eq_true h15⟩, of_decide_eq_true h16, of_decide_eq_true h17, eqO_ok h18⟩
/-! ### an error class's own __init__ -/
abbrev FnI : Type := Option (Str × Str × Arguments × FuncBody × Scope × Addr × List Str × Value × Value × Addr)
def fnI (K : PySem.W.Frag) (x : Str) : FnI := match K.lookup (ma K (ga K x) "__init__") with
  | some ⟨_, _, .func fd, _⟩ => some (fd.name, fd.qualname, fd.params, fd.body, fd.scope, fd.globals, fd.closure.map (·.1), fd.defaults, fd.kwdefaults, fd.builtins)
  | _ => none
structure IniD where
  cls : Str
  params : Arguments
  body : List Stmt
  scope : Scope
def IniD.val (d : IniD) : FnI := some ("__init__", d.cls ++ ".__init__", d.params, .stmts d.body, d.scope, mainGlobals, ["__class__"], .none, .none, builtinsNs)
/-- its cell and its code object -/
def iniB (file : Str) (K : PySem.W.Frag) (x : Str) : Bool := match K.lookup (ma K (ga K x) "__init__") with
  | some ⟨_, _, .func fd, _⟩ => PySem.W.codeIn K fd.code (x ++ ".__init__") && ((match fd.closure with
    | [(_, cc)] => (match K.lookup cc with
      | some ⟨_, _, .cell (some (.ref D)), _⟩ => decide (D = ga K x)
      | _ => false)
    | _ => false) && (match fd.code with
    | .ref cda => (match K.lookup cda with
      | some ⟨_, _, .fields vs, _⟩ => (match (vs[2]? : Option Value) with
        | some (.str f _) => (file == f)
        | _ => false)
      | _ => false)
    | _ => false))
  | _ => false
theorem own_txt {prog : Program} {K : PySem.W.Frag} {mg : Str → Option Value} {base : Heap} {d : IniD} {b fn pre : Str} {j : Nat} {p1 p2 q1 q2 q3 q4 q5 q6 q7 q8 q9 r1 r2 r3 r4 : Pos} (F : ClsFacts K d.cls b fn) (gC : mg d.cls = some (.ref (ga K d.cls))) (e : fnI K d.cls = d.val) (hi : iniB prog.main.file K d.cls = true) (nsup : mg "super" = none)
    (any : PySem.W.nsIn K cStatics "thirdparty.any" = some none) (top : (prog.main.scope.names.lookup ("super" : Str)).isSome = false) (hA : d.params = PySem.OwnX.oA fn p1 p2) (hB : d.body = PySem.OwnX.oB fn pre j q1 q2 q3 q4 q5 q6 q7 q8 q9 r1 r2 r3 r4) (hS : d.scope = PySem.OwnX.oS fn)
    (hE : PySem.OwnX.EvM (.Call (.Name "super" q1) [] [] q2) "__init__" q3 q8 [.JoinedStr [.Constant (.str pre) j q4, .FormattedValue (.Name fn q5) (-1) none q6] q7]) :
    ∃ cc cda, PySem.OwnX.OwnTxt prog K mg base d.cls fn pre (ga K d.cls) (ma K (ga K d.cls) "__init__") cc cda := by
  unfold fnI IniD.val at e
  unfold iniB at hi
  cases q : K.lookup (ma K (ga K d.cls) "__init__") with
  | none => rw [q] at e; cases e
  | some o =>
    obtain ⟨oc, od, dt, osl⟩ := o
    rw [q] at e hi
    cases dt with
    | func fd =>
      obtain ⟨n1, n2, n3, n4, n5, n6, n7, n8, n9, n10, n11, n12, n13, n14, n15⟩ := fd
      simp only [Option.some.injEq, Prod.mk.injEq] at e
      obtain ⟨e1, e2, e3, e4, e5, e6, e7, e8, e9, e10⟩ := e
      simp only at hi
      obtain ⟨h1, h2⟩ := ba hi
      obtain ⟨h3, h4⟩ := ba h2
      rw [hA] at e3
      rw [hB] at e4
      rw [hS] at e5
      subst e1 e2 e3 e4 e5 e6 e8 e9 e10
      cases n7 with
      | nil => cases h3
      | cons p ps =>
        cases ps with
        | cons p2 ps2 => cases h3
        | nil =>
          obtain ⟨nm, cc⟩ := p
          simp only [List.map_cons, List.map_nil, List.cons.injEq, and_true] at e7
          subst e7
          cases n13 with
          | ref cda =>
            simp only at h3 h4
            refine ⟨cc, cda, ⟨gC, F.T, F.no, F.iC, F.tI, F.cl.xf, ⟨oc, od, n10, n11, n12, n14, osl, j, p1, p2, q1, q2, q3, q4, q5, q6, q7, q8, q9, r1, r2, r3, r4, q, hE⟩, h1, ?_, ?_, F.sup, F.sub, F.self, nsup, any, top⟩⟩
            · split at h3
              · rename_i a b D c hl
                have := of_decide_eq_true h3
                subst this
                exact ⟨_, _, _, hl⟩
              · cases h3
            · split at h4
              · rename_i a b vs c hl
                split at h4
                · rename_i f t hv
                  exact ⟨_, _, _, _, _, _, hl, hv, h4⟩
                · cases h4
              · cases h4
          | _ => cases h4
    | _ => cases e
/-! ### the Hook -/
def frR (g : Addr → Option Obj) (n : Nat) : PySem.W.Frag := He.frT g (cStatics :: He.asD g n)
structure SaysR (fa : List He.Fa) (fn : List He.DefD) (ini : List IniD) (tf : List He.Defn) (ex : PySem.W.Frag → Bool) (h : Heap) (K : PySem.W.Frag) : Prop where
  d : He.SaysD fa fn K
  i : ini.map (fun d => fnI K d.cls) = ini.map IniD.val
  more : ex K = true
  hd : ∀ p ∈ tf, PySem.W.codeHdIn K (He.cT K p).1 (He.cT K p).2 = true
  out : ∀ p ∈ tf, K.lookup (He.cT K p).2 = none
  empty : ∀ p ∈ tf, h.get? (He.cT K p).2 = some { cls := .none, data := .fields #[] }
abbrev AlR : Type := He.AlD × List FnI × Bool
def obsR (n : Nat) (fa : List He.Fa) (fn : List He.DefD) (ini : List IniD) (tf : List He.Defn) (ex : PySem.W.Frag → Bool) (g : Addr → Option Obj) : AlR := (He.obsD fa fn (frR g n), ini.map (fun d => fnI (frR g n) d.cls), ex (frR g n) && He.tabsB g tf (frR g n))
def valR (fn : List He.DefD) (ini : List IniD) : AlR := (He.valD fn, ini.map IniD.val, true)
theorem saysR_of {n : Nat} {fa : List He.Fa} {fn : List He.DefD} {ini : List IniD} {tf : List He.Defn} {ex : PySem.W.Frag → Bool} {h : Heap} (e : obsR n fa fn ini tf ex h.get? = valR fn ini) : SaysR fa fn ini tf ex h (frR h.get? n) := by
  have e1 : He.obsD fa fn (frR h.get? n) = He.valD fn := congrArg (fun z : AlR => z.1) e
  have e2 : ini.map (fun d => fnI (frR h.get? n) d.cls) = ini.map IniD.val := congrArg (fun z : AlR => z.2.1) e
  have e3 : (ex (frR h.get? n) && He.tabsB h.get? tf (frR h.get? n)) = true := congrArg (fun z : AlR => z.2.2) e
  obtain ⟨h1, h2⟩ := ba e3
  have key : ∀ p ∈ tf, PySem.W.codeHdIn (frR h.get? n) (He.cT (frR h.get? n) p).1 (He.cT (frR h.get? n) p).2 = true ∧ ∃ o, h.get? (He.cT (frR h.get? n) p).2 = some o ∧ He.emptyTab o = true := fun p hp => by
    obtain ⟨h3, h4⟩ := ba (List.all_eq_true.mp h2 p hp)
    refine ⟨h3, ?_⟩
    cases q : h.get? (He.cT (frR h.get? n) p).2 with
    | none => rw [q] at h4; cases h4
    | some o => rw [q] at h4; exact ⟨o, rfl, h4⟩
  exact ⟨e1, e2, h1, fun p hp => (key p hp).1, fun p hp => by
    obtain ⟨_, o, q, z⟩ := key p hp
    exact He.frT_none q z, fun p hp => by
    obtain ⟨_, o, q, z⟩ := key p hp
    rw [q, He.emptyTab_eq z]⟩
def hookR (n : Nat) (fa : List He.Fa) (fn : List He.DefD) (ini : List IniD) (tf : List He.Defn) (ex : PySem.W.Frag → Bool) : PySem.W.Hook where
  α := AlR
  obs := fun s => obsR n fa fn ini tf ex s.heap.get?
  val := fun _ => valR fn ini
  says := fun _ h => ∃ K : PySem.W.Frag, K.In h ∧ SaysR fa fn ini tf ex h K
  of := fun _ _ e => ⟨_, He.frT_in, saysR_of e⟩
  keeps := fun _ _ _ ⟨K, hK, c⟩ k => ⟨K, PySem.W.Frag.In.keeps hK k, ⟨c.d, c.i, c.more, c.hd, c.out, fun p hp => k _ _ (c.empty p hp)⟩⟩
theorem obsR_eq {n : Nat} {fa : List He.Fa} {fn : List He.DefD} {ini : List IniD} {tf : List He.Defn} {ex : PySem.W.Frag → Bool} {g : Addr → Option Obj} {s : Shared} (h : ∀ a, g a = s.heap.get? a) : obsR n fa fn ini tf ex g = (hookR n fa fn ini tf ex).obs s := by
  have e : g = s.heap.get? := funext h
  rw [e] <;> rfl
theorem SaysR.ini {fa : List He.Fa} {fn : List He.DefD} {ini : List IniD} {tf : List He.Defn} {ex : PySem.W.Frag → Bool} {h : Heap} {K : PySem.W.Frag} (c : SaysR fa fn ini tf ex h K) (i : Nat) {d : IniD} (e : ini[i]? = some d := by rfl) : fnI K d.cls = d.val := by
  have e2 : (ini.map fun d => fnI K d.cls)[i]? = (ini.map IniD.val)[i]? := by rw [c.i]
  rw [List.getElem?_map, List.getElem?_map, e] at e2
  exact Option.some.inj e2
theorem SaysR.at {fa : List He.Fa} {fn : List He.DefD} {ini : List IniD} {tf : List He.Defn} {ex : PySem.W.Frag → Bool} {h base : Heap} {K : PySem.W.Frag} {mg : Str → Option Value} (X : K.In base) (G : base.Ns mainGlobals mg) (c : SaysR fa fn ini tf ex h K) {x : Str} {params : Arguments} {body : List Stmt} {scope : Scope} (i j : Nat) (e : fn[i]? = some ⟨(x, none), x, x, params, body, scope, [], []⟩ := by rfl) (e2 : fa[j]? = some (.glo x) := by rfl) : DefAt K mg x params body scope :=
  ⟨c.d.def_ i e, He.glo_ok X G (c.d.fact j e2)⟩
/-! ### the law's end -/
/-- the first cells: the tables -/
def cells0 (K : PySem.W.Frag) (tf : List (He.Defn × Str)) : Cs := tf.map fun p => .tab (He.cT K p.1).2 p.2
theorem cells0_ok {K : PySem.W.Frag} {H : Hp} {tf : List (He.Defn × Str)} (hn : (tf.map fun p => (He.cT K p.1).2).Nodup) (hT : ∀ p ∈ tf, H (He.cT K p.1).2 = some (.tbl #[])) : Cells K (tf.map fun p => (He.cT K p.1).2) [] (cells0 K tf) H := by
  refine ⟨by simp [cells0], hn, fun a _ => by simp, fun a ha => absurd ha (by simp), fun n a x e1 e2 => ?_⟩
  unfold cells0 at e2
  rw [List.getElem?_map] at e1 e2
  cases e : tf[n]? with
  | none => rw [e] at e1; cases e1
  | some p =>
    rw [e] at e1 e2
    cases e1; cases e2
    refine ⟨rfl, #[], hT p (List.mem_of_getElem? e), trivial, fun pos cv h => ?_⟩
    have z : codeAmong pos [] = some cv := h
    simp [codeAmong] at z
theorem isl_ints {K : PySem.W.Frag} {r o : List Addr} {H : Hp} : ∀ ns : List Int, IsL K r o H (ns.map D.int) (ns.map V.int)
  | [] => .nil
  | _ :: ns => .cons .int (isl_ints ns)
theorem law_at {l : PySem.W.OpenLaw} {w : World} {K : PySem.W.Frag} {k n : Nat} {x : Str} {mg : Str → Option Value} {fa : Addr} {h : Heap} {tf : List (He.Defn × Str)} {fdef : List He.Fa} {fn : List He.DefD} {ini : List IniD} {ex : PySem.W.Frag → Bool} {F : PySem.W.Frag → FN} {fd : FuncData}
    (KX : K.In h) (c : SaysR fdef fn ini (tf.map (·.1)) ex h K) (hnd : (tf.map fun p => (He.cT K p.1).2).Nodup) (hb : ∀ (s : Shared) (u : Value), BindsTo s fd ⟨[u], []⟩ [(x, u)])
    (hlaw : ∀ ns : List Int, ns.length ≤ n → (∀ z ∈ ns, Builtin.Int.intBits z ≤ 1048576) → ∃ c', F K [.scr (ns.map D.int)] (cells0 K tf) = .ok (.bl true) c')
    (hF : ∀ base : Heap, K.In base → base.Ns mainGlobals mg → (∀ p ∈ tf, LamX.TabB base mg (He.cT K p.1).1 (He.cT K p.1).2) → FnOk l.prog w K mg base (L2.CX l.prog w) k fa fd [x] (spR K (F K))) :
    LamX.LawAtS l w K (L2.CX l.prog w) k n x mg fa h := by
  have mem : ∀ p ∈ tf.map (fun p => He.cT K p.1), ∃ q ∈ tf.map (·.1), p = He.cT K q := fun p hp => by
    obtain ⟨q, hq, e⟩ := List.mem_map.mp hp
    exact ⟨q.1, List.mem_map.mpr ⟨q, hq, rfl⟩, e.symm⟩
  refine ⟨fd, tf.map (fun p => He.cT K p.1), spR K (F K), fun p hp => ?_, fun p hp => ?_, fun p hp => ?_, hb, fun H a ns hl hbits hT hS => ?_, fun base hK hN hTB => hF base hK hN fun p hp => hTB _ (List.mem_map.mpr ⟨p, hp, rfl⟩)⟩
  · obtain ⟨q, hq, rfl⟩ := mem p hp
    exact c.empty q hq
  · obtain ⟨q, hq, rfl⟩ := mem p hp
    exact c.out q hq
  · obtain ⟨q, hq, rfl⟩ := mem p hp
    exact PySem.W.codeHd_of_K KX (c.hd q hq)
  · obtain ⟨c', e⟩ := hlaw ns hl hbits
    have hT' : ∀ p ∈ tf, H (He.cT K p.1).2 = some (.tbl #[]) := fun p hp => hT (He.cT K p.1) (List.mem_map.mpr ⟨p, hp, rfl⟩)
    have hcl := cells0_ok hnd hT'
    refine ⟨_, [], _, [.scr (ns.map D.int)], hcl, .cons (.scr ?_ (isl_ints ns)) .nil, ?_⟩
    · rcases hS with z | z
      · refine .inl ⟨fun hm => ?_, by simp, z⟩
        obtain ⟨p, hp, ep⟩ := List.mem_map.mp hm
        have := hT' p hp
        rw [ep] at this
        rcases z with z | ⟨ob, z⟩ <;> rw [this] at z <;> cases z
      · exact .inr z
    · rw [e]
      exact fun r' H' v _ _ hv => hv.bl_inv
end RL

set_option Elab.async false
set_option linter.all false
set_option maxRecDepth 100000
set_option maxHeartbeats 4000000
namespace RL
open PySem PySem.Spec PyProof.Rows L2
theorem own_raise {P : Program} {K : PySem.W.Frag} {mg : Str → Option Value} {base : Heap} {cn fn pre : Str} {C fI : Addr} {φ : Prop} (h : ∃ cc cda, PySem.OwnX.OwnTxt P K mg base cn fn pre C fI cc cda) (k : ∀ {cc cda}, PySem.OwnX.OwnTxt P K mg base cn fn pre C fI cc cda → φ) : φ := by
  obtain ⟨cc, cda, h⟩ := h
  exact k h
theorem bt_len : bootBuiltins "len" = some (.builtin "len") := by kernel_rfl
theorem bt_min : bootBuiltins "min" = some (.builtin "min") := by kernel_rfl
theorem bt_max : bootBuiltins "max" = some (.builtin "max") := by kernel_rfl
theorem bt_int : bootBuiltins "int" = some (.type "int") := by kernel_rfl
theorem bt_bool : bootBuiltins "bool" = some (.type "bool") := by kernel_rfl
theorem bt_str : bootBuiltins "str" = some (.type "str") := by kernel_rfl
theorem bt_tuple : bootBuiltins "tuple" = some (.type "tuple") := by kernel_rfl
theorem bt_list : bootBuiltins "list" = some (.type "list") := by kernel_rfl
theorem bt_dict : bootBuiltins "dict" = some (.type "dict") := by kernel_rfl
theorem bt_all : bootBuiltins "all" = some (.builtin "all") := by kernel_rfl
theorem bt_any : bootBuiltins "any" = some (.builtin "any") := by kernel_rfl
end RL

set_option Elab.async false
set_option linter.all false
set_option maxRecDepth 100000
set_option maxHeartbeats 4000000
/-! ## a for over a list that may change: read anew at each turn -/
namespace RL
open PySem PySem.Spec PyProof.Rows L2
variable {K : PySem.W.Frag} {r r' r1 r2 o o' o1 : List Addr} {H H' H1 H2 : Hp} {c c' c1 c2 : Cs} {W : WX} {t : L2.St}
def loopC (n len : Nat) (g : FG) (b : FS) : Nat → FS
  | 0 => fun s c => match c[n]? with | some (.lst l) => if l.length = len then .nx s c else .bad | _ => .bad
  | k + 1 => fun s c => match c[n]? with
    | some (.lst l) => if l.length = len then (match l[len - (k + 1)]? with
      | some d => (g d s c).bind fun s1 c1 => match b s1 c1 with
        | .nx s2 c2 => loopC n len g b k s2 c2
        | .ct s2 c2 => loopC n len g b k s2 c2
        | .bk s2 c2 => .nx s2 c2
        | x => x
      | none => .bad) else .bad
    | _ => .bad
def sForV (f : FE) (g : FG) (b : FS) : FS := fun s c => (f s c).toS s fun d c1 => match d with
  | .cel n => (match c1[n]? with | some (.lst l) => loopC n l.length g b l.length s c1 | _ => .bad)
  | d => match walkD d with | some l => loopL g b l s c1 | none => .bad
theorem gives_cel {n : Nat} {a : Addr} {l : List D} (hc : Cells K r o c H) (hn : r[n]? = some a) (hl : c[n]? = some (.lst l)) (i : Nat) :
    (∀ d, l[i]? = some d → (Itl K a).go i H ∧ ∀ x H2, (Itl K a).yld i H x H2 → (∀ a u, H a = some u → H2 a = some u) ∧ Is K r o H2 d x) ∧ (l.length ≤ i → (Itl K a).stop i H) := by
  obtain ⟨us, q1, q2⟩ := hc.ok n a _ hn hl
  have hq : SqL K H a us := .inl (.inl q1)
  refine ⟨fun d e => ?_, fun hle => ⟨us, hq, by rw [← q2.length]; exact hle⟩⟩
  obtain ⟨x, hx, hd⟩ := q2.get e
  refine ⟨⟨us, x, hq, hx⟩, fun y H2 z => ?_⟩
  obtain ⟨e2, z2⟩ := z
  subst e2
  have := z2 us hq
  rw [hx] at this
  cases this
  exact ⟨fun _ _ e => e, hd⟩
theorem snd_forV {te : TE} {g : TG} {tb : TS} {f : FE} {fg : FG} {b : FS} (hf : SndE K W te f) (hg : SndG K W g fg) (hb : SndS K W tb b) : SndS K W (tFor (iSeq K te) g tb) (sForV f fg b) := fun r o c s H t D hc hs h => by
  by_cases hcel : ∃ n c1, f s c = .ok (.cel n) c1
  · obtain ⟨n, c1, e⟩ := hcel
    refine hf r o c s H t _ hc hs ?_
    rw [e]
    simp only [sForV, e, Res.toS] at h
    intro r1 H1 v s1 hc1 hv
    have h1 := OkS.step s1 h
    cases hv with
    | @cel n' a hn =>
      cases e2 : c1[n]? with
      | none => simp only [e2] at h1; exact h1.elim
      | some q =>
        cases q with
        | ins C fs => simp only [e2] at h1; exact h1.elim
        | tab _ _ => simp only [e2] at h1; exact h1.elim
        | lst l =>
          simp only [e2] at h1
          obtain ⟨us, q1, q2⟩ := hc1.ok n a _ hn e2
          refine .inl ⟨a, rfl, ⟨us, .inl (.inl q1)⟩, ?_⟩
          refine ⟨fun i m t' H' => m = l.length - i ∧ i ≤ l.length ∧ ∃ r' c' s', r'[n]? = some a ∧ Cells K r' o c' H' ∧ SlOk K r' o H' s' t' ∧ OkS K W r' o H' D (loopC n l.length fg b (l.length - i) s' c'),
            ⟨l.length, by simp, Nat.zero_le _, r1, c1, s, hn, hc1, hs.mono s1, h1⟩, ?_⟩
          rintro i m t2 H2 ⟨rfl, hi2, r2, c2, s2, l2, hc2, hs2, h2⟩
          by_cases hlt : i < l.length
          · have ek : l.length - i = (l.length - (i + 1)) + 1 := by omega
            have ei : l.length - ((l.length - (i + 1)) + 1) = i := by omega
            rw [ek] at h2
            simp only [loopC, ei] at h2
            split at h2
            · rename_i l' e5
              split at h2
              · rename_i elen
                split at h2
                · rename_i d e6
                  obtain ⟨hgo, _⟩ := gives_cel hc2 l2 e5 i
                  obtain ⟨go, yl⟩ := hgo d e6
                  refine .inr ⟨go, fun t' H' => ∃ r' c' s', r'[n]? = some a ∧ Cells K r' o c' H' ∧ SlOk K r' o H' s' t' ∧ OkS K W r' o H' D (loopC n l.length fg b (l.length - (i + 1)) s' c'), fun t' H' z => ⟨l.length - (i + 1), by omega, rfl, hlt, z⟩, fun x H3 y => ?_⟩
                  obtain ⟨k3, hx⟩ := yl x H3 y
                  have st3 : Step r2 H2 r2 H3 := Step.grow k3
                  have hc3 := hc2.grow k3
                  have h4 := OkS.step st3 h2
                  refine hg r2 o c2 s2 H3 t2 { D with nx := fun t' H' => tb { D with nx := fun t' H' => ∃ r' c' s', r'[n]? = some a ∧ Cells K r' o c' H' ∧ SlOk K r' o H' s' t' ∧ OkS K W r' o H' D (loopC n l.length fg b (l.length - (i + 1)) s' c'), ct := fun t' H' => ∃ r' c' s', r'[n]? = some a ∧ Cells K r' o c' H' ∧ SlOk K r' o H' s' t' ∧ OkS K W r' o H' D (loopC n l.length fg b (l.length - (i + 1)) s' c'), bk := D.nx } t' H' } d x hc3 (hs2.mono st3) hx ?_
                  cases e : fg d s2 c2 with
                  | nx s4 c4 =>
                    rw [e] at h4
                    intro r4 H4 t4 st4 hc4 hs4
                    have h5 := OkS.step st4 h4
                    have l4 : r4[n]? = some a := (st4.later (o := o)).at l2
                    refine hb r4 o c4 s4 H4 t4 _ hc4 hs4 ?_
                    simp only [SR.bind] at h5
                    cases e5 : b s4 c4 with
                    | nx s' c' => rw [e5] at h5; exact fun r' H' t' st hc' hs' => ⟨r', c', s', (st.later (o := o)).at l4, hc', hs', OkS.step st h5⟩
                    | ct s' c' => rw [e5] at h5; exact fun r' H' t' st hc' hs' => ⟨r', c', s', (st.later (o := o)).at l4, hc', hs', OkS.step st h5⟩
                    | bk s' c' => rw [e5] at h5; exact h5
                    | rt d c' => rw [e5] at h5; exact h5
                    | err x s' c' => rw [e5] at h5; exact h5
                    | bad => rw [e5] at h5; exact h5
                  | rt d c' => rw [e] at h4; exact h4
                  | bk s' c' => rw [e] at h4; exact h4
                  | ct s' c' => rw [e] at h4; exact h4
                  | err x s' c' => rw [e] at h4; exact h4
                  | bad => rw [e] at h4; exact h4
                · exact h2.elim
              · exact h2.elim
            · exact h2.elim
          · have ei : i = l.length := by omega
            subst ei
            rw [Nat.sub_self] at h2
            simp only [loopC] at h2
            split at h2
            · rename_i l' e5
              split at h2
              · rename_i elen
                exact .inl ⟨(gives_cel hc2 l2 e5 l.length).2 (by omega), h2 _ _ _ Step.refl hc2 hs2⟩
              · exact h2.elim
            · exact h2.elim
  · refine snd_for (snd_iseq hf) hg hb r o c s H t D hc hs ?_
    have e : sForV f fg b s c = ((fSeq f s c).toS s fun ds c1 => loopL fg b ds s c1) := by
      unfold sForV fSeq
      cases e : f s c with
      | err x c1 => rfl
      | bad => rfl
      | ok d c1 =>
        cases d with
        | cel n => exact (hcel ⟨n, c1, e⟩).elim
        | _ => simp only [Res.toS, Res.bind_ok] <;> first | rfl | (split <;> rfl)
    show OkS K W r o H D ((fSeq f s c).toS s fun ds c1 => loopL fg b ds s c1)
    rw [← e]; exact h
section
variable {X : Cx} {e : Expr} {f : FE} {fs : FS} {pos : Pos}
theorem rs_forV {tg : Expr} {b : List Stmt} {fg : FG} (hx : PassesOwn (model X.prog X.w) X.A X.env X.xe) (hc : X.calm = true) (hi : RE X W e f) (hg : RG X W tg fg) (hb : RSs X W b fs) (hs : ∀ x, foldedSetIterable e X.env x = pure x := by intro _; rfl) :
    RS X W (.For tg e b [] pos) (sForV f fg fs) := by
  obtain ⟨_, h1, h2⟩ := hi
  obtain ⟨_, h3, h4⟩ := hg
  obtain ⟨_, h5, h6⟩ := hb
  exact ⟨_, ps_for hx hc (pi_seq h1) h3 h5 hs, snd_forV h2 h4 h6⟩
end
end RL

set_option Elab.async false
set_option linter.all false
set_option maxRecDepth 100000
set_option maxHeartbeats 4000000
/-! ## the defs of the row: what they are worth, their derivations (printed by wip/gen/gen.py) -/
namespace K01
open PySem PySem.Spec PyProof.Rows L2 RL
def top (i : Nat) : Stmt := PySem.Challenge.pw_keyboughs_k01_whole_keys.main.body.getD i (.Pass ⟨0, 0, 0, 0⟩)
def tfs : List (He.Defn × Str) := [(("is_word", none), "is_word.<locals>.<genexpr>"), (("key_of_row", none), "key_of_row.<locals>.<genexpr>"), (("key_of_bits", none), "key_of_bits.<locals>.<genexpr>"), (("_law_refused", none), "_law_refused.<locals>.<lambda>")]
def tb (K : PySem.W.Frag) (i : Nat) : Addr := (He.cT K (tfs.getD i (("", none), "")).1).2
abbrev CB (K : PySem.W.Frag) : Addr := He.ga K "BadArgument"
abbrev CR (K : PySem.W.Frag) : Addr := He.ga K "Refused"
def b_is_number (K : PySem.W.Frag) : FS := (sRet (eAnd (eIsi (eVar 0) ["int"]) (eAnd (eNot (eIsi (eVar 0) ["bool"])) (eChain oLe oLe (eVar 1) (eVar 0) (eVar 2)))))
def F_is_number (K : PySem.W.Frag) : FN := mkF 3 3 (b_is_number K)
def b_check (K : PySem.W.Frag) : FS := (sIf (tsNot (tsE (eVar 0))) (sRaise (He.ga K "BadArgument") "name" (eVar 1)) sNext)
def F_check (K : PySem.W.Frag) : FN := mkF 2 2 (b_check K)
def b_is_word (K : PySem.W.Frag) : FS := (sSeq (sIf (tsOr (tsNot (tsE (eIsi (eVar 0) ["str"]))) (tsNot (tsE (eChain oLe oLe (eC (.int 1)) (eCall fLen (aCons (eVar 0) aNil)) (eC (.int 12)))))) (sRet (eC (.bl false))) sNext)
    (sRet (eQ false 0 (tb K 0) "is_word.<locals>.<genexpr>" (fSeq (eVar 0)) (.nm 1) (eOp oIn (eVar 1) (eC (.str "abcdefghijklmnopqrstuvwxyz"))) [1])))
def F_is_word (K : PySem.W.Frag) : FN := mkF 1 2 (b_is_word K)
def b_is_family (K : PySem.W.Frag) : FS := (sRet (eAnd (eIsi (eVar 0) ["str"]) (eOp oIn (eVar 0) (eC (.tup [.str "numbers", .str "words"])))))
def F_is_family (K : PySem.W.Frag) : FN := mkF 1 1 (b_is_family K)
def b_is_key (K : PySem.W.Frag) : FS := (sRet (eIf (tsE (eOp oEq (eVar 0) (eC (.str "numbers")))) (eCall (F_is_number K) (aCons (eVar 1) (aCons (eC (.int 0)) (aCons (eC (.int 65535)) aNil)))) (eCall (F_is_word K) (aCons (eVar 1) aNil))))
def F_is_key (K : PySem.W.Frag) : FN := mkF 2 2 (b_is_key K)
def b_row_of (K : PySem.W.Frag) : FS := (sSeq (sIf (tsE (eOp oEq (eVar 0) (eC (.str "numbers")))) (sRet (eTupOf (eComp (fRng3 (aCons (eOp oSub (eC (.int 16)) (eC (.int 4))) (aCons (eNeg (eC (.int 1))) (aCons (eNeg (eC (.int 4))) aNil)))) (.nm 2) (fun _ c => .ok true c) (eOp oAnd (eOp oShr (eVar 1) (eVar 2)) (eC (.int 15))) [2]))) sNext)
    (sRet (eTupOf (eOp oAdd (eComp (fSeq (eVar 1)) (.nm 3) (fun _ c => .ok true c) (eOp oAdd (eIdx (eC (.str "abcdefghijklmnopqrstuvwxyz")) (eVar 3)) (eC (.int 1))) [3]) (eLst (aCons (eC (.int 0)) aNil))))))
def F_row_of (K : PySem.W.Frag) : FN := mkF 2 4 (b_row_of K)
def b_bits_in (K : PySem.W.Frag) : FS := (sSeq (sAsg (eIf (tsE (eOp oEq (eVar 0) (eC (.str "numbers")))) (eC (.int 4)) (eC (.int 5))) (gtName 2))
    (sSeq (sAsg (eNew aNil) (gtName 3))
    (sSeq (sFor (fSeq (eCall (F_row_of K) (aCons (eVar 0) (aCons (eVar 1) aNil)))) (gtName 4) (sDrop (eExt (eVar 3) (eComp (fRng3 (aCons (eOp oSub (eVar 2) (eC (.int 1))) (aCons (eNeg (eC (.int 1))) (aCons (eNeg (eC (.int 1))) aNil)))) (.nm 5) (fun _ c => .ok true c) (eOp oAnd (eOp oShr (eVar 4) (eVar 5)) (eC (.int 1))) [5]))))
    (sRet (eTupOf (eVar 3))))))
def F_bits_in (K : PySem.W.Frag) : FN := mkF 2 6 (b_bits_in K)
def b_unlike_place (K : PySem.W.Frag) : FS := (sSeq (sAsg (eC (.int 0)) (gtName 2))
    (sSeq (loopW (tsE (eOp oEq (eOp oIx (eVar 0) (eVar 2)) (eOp oIx (eVar 1) (eVar 2)))) (sAug 2 (eC (.int 1))) 200)
    (sRet (eVar 2))))
def F_unlike_place (K : PySem.W.Frag) : FN := mkF 2 3 (b_unlike_place K)
def b_letters_of (K : PySem.W.Frag) : FS := (sSeq (sDrop (eCall (F_check K) (aCons (eCall (F_is_family K) (aCons (eVar 0) aNil)) (aCons (eC (.str "family")) aNil))))
    (sSeq (sDrop (eCall (F_check K) (aCons (eCall (F_is_key K) (aCons (eVar 0) (aCons (eVar 1) aNil))) (aCons (eC (.str "key")) aNil))))
    (sRet (eCall (F_row_of K) (aCons (eVar 0) (aCons (eVar 1) aNil))))))
def F_letters_of (K : PySem.W.Frag) : FN := mkF 2 2 (b_letters_of K)
def b_bits_of (K : PySem.W.Frag) : FS := (sSeq (sDrop (eCall (F_check K) (aCons (eCall (F_is_family K) (aCons (eVar 0) aNil)) (aCons (eC (.str "family")) aNil))))
    (sSeq (sDrop (eCall (F_check K) (aCons (eCall (F_is_key K) (aCons (eVar 0) (aCons (eVar 1) aNil))) (aCons (eC (.str "key")) aNil))))
    (sRet (eCall (F_bits_in K) (aCons (eVar 0) (aCons (eVar 1) aNil))))))
def F_bits_of (K : PySem.W.Frag) : FN := mkF 2 2 (b_bits_of K)
def b_first_unlike (K : PySem.W.Frag) : FS := (sSeq (sDrop (eCall (F_check K) (aCons (eCall (F_is_family K) (aCons (eVar 0) aNil)) (aCons (eC (.str "family")) aNil))))
    (sSeq (sDrop (eCall (F_check K) (aCons (eCall (F_is_key K) (aCons (eVar 0) (aCons (eVar 1) aNil))) (aCons (eC (.str "one")) aNil))))
    (sSeq (sDrop (eCall (F_check K) (aCons (eCall (F_is_key K) (aCons (eVar 0) (aCons (eVar 2) aNil))) (aCons (eC (.str "other")) aNil))))
    (sRet (eIf (tsE (eOp oEq (eVar 1) (eVar 2))) (eC .non) (eCall (F_unlike_place K) (aCons (eCall (F_bits_in K) (aCons (eVar 0) (aCons (eVar 1) aNil))) (aCons (eCall (F_bits_in K) (aCons (eVar 0) (aCons (eVar 2) aNil))) aNil))))))))
def F_first_unlike (K : PySem.W.Frag) : FN := mkF 3 3 (b_first_unlike K)
def b_key_of_row (K : PySem.W.Frag) : FS := (sSeq (sIf (tsE (eOp oEq (eVar 0) (eC (.str "numbers")))) (sSeq (sDrop (eCall (F_check K) (aCons (eOp oEq (eCall fLen (aCons (eVar 1) aNil)) (eOp oDiv (eC (.int 16)) (eC (.int 4)))) (aCons (eC (.str "bits")) aNil))))
    (sSeq (sAsg (eC (.int 0)) (gtName 2))
    (sSeq (sForV (eVar 1) (gtName 3) (sAsg (eOp oAdd (eOp oMulA (eC (.int 16)) (eVar 2)) (eVar 3)) (gtName 2)))
    (sRet (eVar 2))))) sNext)
    (sSeq (sDrop (eCall (F_check K) (aCons (eAnd (eOp oEq (eSl (eVar 1) (pSome (eNeg (eC (.int 1)))) pNone) (eLst (aCons (eC (.int 0)) aNil))) (eQ false 1 (tb K 1) "key_of_row.<locals>.<genexpr>" (fSeq (eSl (eVar 1) pNone (pSome (eNeg (eC (.int 1)))))) (.nm 4) (eChain oLe oLe (eC (.int 1)) (eVar 4) (eCall fLen (aCons (eC (.str "abcdefghijklmnopqrstuvwxyz")) aNil))) [4])) (aCons (eC (.str "bits")) aNil))))
    (sSeq (sAsg (eJoin (eC (.str "")) (eComp (fSeq (eSl (eVar 1) pNone (pSome (eNeg (eC (.int 1)))))) (.nm 4) (fun _ c => .ok true c) (eOp oIx (eC (.str "abcdefghijklmnopqrstuvwxyz")) (eOp oSub (eVar 4) (eC (.int 1)))) [4])) (gtName 2))
    (sSeq (sDrop (eCall (F_check K) (aCons (eCall (F_is_word K) (aCons (eVar 2) aNil)) (aCons (eC (.str "bits")) aNil))))
    (sRet (eVar 2))))))
def F_key_of_row (K : PySem.W.Frag) : FN := mkF 2 5 (b_key_of_row K)
def b_key_of_bits (K : PySem.W.Frag) : FS := (sSeq (sDrop (eCall (F_check K) (aCons (eCall (F_is_family K) (aCons (eVar 0) aNil)) (aCons (eC (.str "family")) aNil))))
    (sSeq (sDrop (eCall (F_check K) (aCons (eAnd (eIsi (eVar 1) ["tuple"]) (eQ false 2 (tb K 2) "key_of_bits.<locals>.<genexpr>" (fSeq (eVar 1)) (.nm 6) (eAnd (eIsi (eVar 6) ["int"]) (eOp oIn (eVar 6) (eTup (aCons (eC (.int 0)) (aCons (eC (.int 1)) aNil))))) [6])) (aCons (eC (.str "bits")) aNil))))
    (sSeq (sAsg (eIf (tsE (eOp oEq (eVar 0) (eC (.str "numbers")))) (eC (.int 4)) (eC (.int 5))) (gtName 2))
    (sSeq (sDrop (eCall (F_check K) (aCons (eAnd (eOp oEq (eOp oMod (eCall fLen (aCons (eVar 1) aNil)) (eVar 2)) (eC (.int 0))) (eNot (eQ true 2 (tb K 2) "key_of_bits.<locals>.<genexpr>" (fSeq (eVar 1)) (.nm 6) (eIsi (eVar 6) ["bool"]) [6]))) (aCons (eC (.str "bits")) aNil))))
    (sSeq (sAsg (eNew aNil) (gtName 3))
    (sSeq (sFor (fRng3 (aCons (eC (.int 0)) (aCons (eCall fLen (aCons (eVar 1) aNil)) (aCons (eVar 2) aNil)))) (gtName 4) (sSeq (sAsg (eC (.int 0)) (gtName 5))
    (sSeq (sFor (fSeq (eSl (eVar 1) (pSome (eVar 4)) (pSome (eOp oAdd (eVar 4) (eVar 2))))) (gtName 6) (sAsg (eOp oAdd (eOp oMulA (eC (.int 2)) (eVar 5)) (eVar 6)) (gtName 5)))
    (sDrop (eApp (eVar 3) (eVar 5))))))
    (sRet (eCall (F_key_of_row K) (aCons (eVar 0) (aCons (eVar 3) aNil))))))))))
def F_key_of_bits (K : PySem.W.Frag) : FN := mkF 2 7 (b_key_of_bits K)
def b__law_taken (K : PySem.W.Frag) : FS := (sSeq (sIf (tsE (eOp oGt (eOp oIx (eVar 0) (eC (.int 3))) (eC (.int 0)))) (sSeq (sAsg (eOp oMod (eCall fInt (aCons (eOp oIx (eVar 0) (eC (.int 3))) aNil)) (eVar 1)) (gtName 3))
    (sSeq (sAsg (eOp oDiv (eOp oIx (eVar 0) (eC (.int 3))) (eVar 1)) (gtSub (eVar 0) (eC (.int 3))))
    (sRet (eVar 3)))) sNext)
    (sSeq (sAsg (eOp oAdd (eOp oIx (eVar 0) (eC (.int 1))) (eC (.int 1))) (gtSub (eVar 0) (eC (.int 1))))
    (sSeq (sIf (tsE (eOp oGt (eOp oIx (eVar 0) (eC (.int 1))) (eCall fLen (aCons (eOp oIx (eVar 0) (eC (.int 0))) aNil)))) (sSeq (sAsg (eOp oMod (eCall fInt (aCons (eOp oAdd (eOp oMulA (eOp oIx (eVar 0) (eC (.int 2))) (eC (.int 48271))) (eC (.int 11))) aNil)) (eC (.int 2147483647))) (gtSub (eVar 0) (eC (.int 2))))
    (sRet (eOp oMod (eCall fInt (aCons (eOp oDiv (eOp oIx (eVar 0) (eC (.int 2))) (eC (.int 7))) aNil)) (eVar 1)))) sNext)
    (sSeq (sAsg (eOp oIx (eOp oIx (eVar 0) (eC (.int 0))) (eOp oSub (eOp oIx (eVar 0) (eC (.int 1))) (eC (.int 1)))) (gtName 2))
    (sSeq (sAsg (eOp oMod (eCall fInt (aCons (eOp oAdd (eOp oAdd (eOp oMulA (eOp oIx (eVar 0) (eC (.int 2))) (eC (.int 48271))) (eVar 2)) (eC (.int 11))) aNil)) (eC (.int 2147483647))) (gtSub (eVar 0) (eC (.int 2))))
    (sSeq (sIf (tsE (eOp oGe (eVar 2) (eOp oPow (eC (.int 10)) (eC (.int 18))))) (sAsg (eOp oDiv (eVar 2) (eVar 1)) (gtSub (eVar 0) (eC (.int 3)))) sNext)
    (sRet (eOp oMod (eCall fInt (aCons (eVar 2) aNil)) (eVar 1)))))))))
def F__law_taken (K : PySem.W.Frag) : FN := mkF 2 4 (b__law_taken K)
def b__law_pick (K : PySem.W.Frag) : FS := (sRet (eOp oIx (eVar 1) (eCall (F__law_taken K) (aCons (eVar 0) (aCons (eCall fLen (aCons (eVar 1) aNil)) aNil)))))
def F__law_pick (K : PySem.W.Frag) : FN := mkF 2 2 (b__law_pick K)
def b__law_family (K : PySem.W.Frag) : FS := (sRet (eCall (F__law_pick K) (aCons (eVar 0) (aCons (eLst (aCons (eC (.str "numbers")) (aCons (eC (.str "words")) aNil))) aNil))))
def F__law_family (K : PySem.W.Frag) : FN := mkF 1 1 (b__law_family K)
def b__law_word (K : PySem.W.Frag) : FS := (sSeq (sAsg (eCall (F__law_pick K) (aCons (eVar 0) (aCons (eLst (aCons (eC (.str "a")) (aCons (eC (.str "ab")) (aCons (eC (.str "ab")) (aCons (eC (.str "abc")) (aCons (eC (.str "aqz")) (aCons (eC (.str "abcdefghijklmnopqrstuvwxyz")) aNil))))))) aNil))) (gtName 1))
    (sSeq (sAsg (eOp oAdd (eC (.int 1)) (eCall (F__law_taken K) (aCons (eVar 0) (aCons (eCall (F__law_pick K) (aCons (eVar 0) (aCons (eLst (aCons (eC (.int 1)) (aCons (eC (.int 3)) (aCons (eC (.int 4)) (aCons (eC (.int 12)) aNil))))) aNil))) aNil)))) (gtName 2))
    (sRet (eJoin (eC (.str "")) (eComp (fRng1 (aCons (eVar 2) aNil)) (.nm 3) (fun _ c => .ok true c) (eCall (F__law_pick K) (aCons (eVar 0) (aCons (eVar 1) aNil))) [3])))))
def F__law_word (K : PySem.W.Frag) : FN := mkF 1 4 (b__law_word K)
def b__law_key (K : PySem.W.Frag) : FS := (sSeq (sIf (tsE (eOp oEq (eVar 1) (eC (.str "words")))) (sRet (eCall (F__law_word K) (aCons (eVar 0) aNil))) sNext)
    (sSeq (sAsg (eCall (F__law_pick K) (aCons (eVar 0) (aCons (eLst (aCons (eC (.int 8)) (aCons (eC (.int 20)) (aCons (eC (.int 300)) (aCons (eC (.int 65536)) aNil))))) aNil))) (gtName 2))
    (sRet (eOp oMod (eOp oMulA (eCall (F__law_taken K) (aCons (eVar 0) (aCons (eVar 2) aNil))) (eCall (F__law_pick K) (aCons (eVar 0) (aCons (eLst (aCons (eC (.int 1)) (aCons (eC (.int 1)) (aCons (eC (.int 16)) (aCons (eC (.int 257)) aNil))))) aNil)))) (eC (.int 65536))))))
def F__law_key (K : PySem.W.Frag) : FN := mkF 2 3 (b__law_key K)
def b__law_letters (K : PySem.W.Frag) : FS := (sSeq (sIf (tsE (eOp oEq (eVar 0) (eC (.str "numbers")))) (sRet (eTupOf (eComp (fSeq (eTup (aCons (eC (.int 4096)) (aCons (eC (.int 256)) (aCons (eC (.int 16)) (aCons (eC (.int 1)) aNil)))))) (.nm 2) (fun _ c => .ok true c) (eOp oMod (eOp oDiv (eVar 1) (eVar 2)) (eC (.int 16))) [2]))) sNext)
    (sRet (eOp oAdd (eTupOf (eComp (fSeq (eVar 1)) (.nm 3) (fun _ c => .ok true c) (eOp oAdd (eIdx (eC (.str "abcdefghijklmnopqrstuvwxyz")) (eVar 3)) (eC (.int 1))) [3])) (eTup (aCons (eC (.int 0)) aNil)))))
def F__law_letters (K : PySem.W.Frag) : FN := mkF 2 4 (b__law_letters K)
def b__law_bits (K : PySem.W.Frag) : FS := (sSeq (sAsg (eLst aNil) (gtName 2))
    (sSeq (sFor (fSeq (eCall (F__law_letters K) (aCons (eVar 0) (aCons (eVar 1) aNil)))) (gtName 3) (sAsg (eOp oAdd (eVar 2) (eComp (fSeq (eIf (tsE (eOp oEq (eVar 0) (eC (.str "numbers")))) (eTup (aCons (eC (.int 8)) (aCons (eC (.int 4)) (aCons (eC (.int 2)) (aCons (eC (.int 1)) aNil))))) (eTup (aCons (eC (.int 16)) (aCons (eC (.int 8)) (aCons (eC (.int 4)) (aCons (eC (.int 2)) (aCons (eC (.int 1)) aNil)))))))) (.nm 4) (fun _ c => .ok true c) (eOp oMod (eOp oDiv (eVar 3) (eVar 4)) (eC (.int 2))) [4])) (gtName 2)))
    (sRet (eTupOf (eVar 2)))))
def F__law_bits (K : PySem.W.Frag) : FN := mkF 2 5 (b__law_bits K)
def b__law_alike (K : PySem.W.Frag) (R : FN) : FS := (sSeq (sIf (tsE (eIsi (eVar 1) ["tuple", "list"])) (sSeq (sIf (tsOr (tsNot (tsE (eIsi (eVar 0) ["tuple", "list"]))) (tsE (eOp oNe (eIsi (eVar 0) ["list"]) (eIsi (eVar 1) ["list"])))) (sRet (eC (.bl false))) sNext)
    (sSeq (sIf (tsE (eOp oNe (eCall fLen (aCons (eVar 0) aNil)) (eCall fLen (aCons (eVar 1) aNil)))) (sRet (eC (.bl false))) sNext)
    (sRet (eOp oEq (eComp (fRng1 (aCons (eCall fLen (aCons (eVar 1) aNil)) aNil)) (.nm 2) (tsNot (tsE (eCall R (aCons (eOp oIx (eVar 0) (eVar 2)) (aCons (eOp oIx (eVar 1) (eVar 2)) aNil))))) (eVar 2) [2]) (eLst aNil))))) sNext)
    (sSeq (sIf (tsE (eIsi (eVar 1) ["dict"])) (fun _ _ => .bad) sNext)
    (sSeq (sIf (tsOr (tsE (eOp oIsN (eVar 1) (eC .non))) (tsE (eIsi (eVar 1) ["str"]))) (sRet (eAnd (eOp oEq (eVar 0) (eVar 1)) (eOp oEq (eIsi (eVar 0) ["str"]) (eIsi (eVar 1) ["str"])))) sNext)
    (sRet (eAnd (eIsi (eVar 0) ["int"]) (eAnd (eOp oEq (eIsi (eVar 0) ["bool"]) (eIsi (eVar 1) ["bool"])) (eOp oEq (eVar 0) (eVar 1))))))))
def F__law_alike (K : PySem.W.Frag) : Nat → FN
  | 0 => fun _ _ => .bad
  | n + 1 => mkF 2 4 (b__law_alike K (F__law_alike K n))
def b__law_refused (K : PySem.W.Frag) : FS := (sSeq (sAsg (eCall (F__law_pick K) (aCons (eVar 0) (aCons (eLst (aCons (eC .non) (aCons (eC (.str "bits")) (aCons (eC (.int 0)) (aCons (eC (.str "")) aNil))))) aNil))) (gtName 4))
    (sSeq (sAsg (eCall (F__law_pick K) (aCons (eVar 0) (aCons (eLst (aCons (eC .non) (aCons (eNeg (eC (.int 1))) (aCons (eC (.int 65536)) (aCons (eC (.bl true)) (aCons (eC (.str "")) (aCons (eC (.str "A")) (aCons (eC (.str "abcdefghijklm")) (aCons (eTup aNil) (aCons (eTup (aCons (eC (.int 7)) aNil)) aNil)))))))))) aNil))) (gtName 5))
    (sSeq (sAsg (eLst (aCons (eLam 3 (tb K 3) "_law_refused.<locals>.<lambda>" (CB K) (CR K) (eCall (F_letters_of K) (aCons (eVar 4) (aCons (eVar 5) aNil)))) (aCons (eLam 3 (tb K 3) "_law_refused.<locals>.<lambda>" (CB K) (CR K) (eCall (F_bits_of K) (aCons (eVar 1) (aCons (eVar 5) aNil)))) (aCons (eLam 3 (tb K 3) "_law_refused.<locals>.<lambda>" (CB K) (CR K) (eCall (F_first_unlike K) (aCons (eVar 1) (aCons (eVar 5) (aCons (eVar 5) aNil))))) (aCons (eLam 3 (tb K 3) "_law_refused.<locals>.<lambda>" (CB K) (CR K) (eCall (F_first_unlike K) (aCons (eVar 1) (aCons (eVar 2) (aCons (eVar 5) aNil))))) aNil))))) (gtName 6))
    (sSeq (sIf (tsNot (tsE (eCall (F__law_alike K 4) (aCons (eVar 6) (aCons (eLst (aCons (eTup (aCons (eC (.str "bad")) (aCons (eC (.str "family")) (aCons (eC (.bl true)) aNil)))) (aCons (eTup (aCons (eC (.str "bad")) (aCons (eC (.str "key")) (aCons (eC (.bl true)) aNil)))) (aCons (eTup (aCons (eC (.str "bad")) (aCons (eC (.str "one")) (aCons (eC (.bl true)) aNil)))) (aCons (eTup (aCons (eC (.str "bad")) (aCons (eC (.str "other")) (aCons (eC (.bl true)) aNil)))) aNil))))) aNil))))) (sRet (eC (.bl false))) sNext)
    (sSeq (sAsg (eLst (aCons (eC .non) (aCons (eTup aNil) (aCons (eSl (eVar 3) pNone (pSome (eNeg (eC (.int 1))))) (aCons (eOp oAdd (eVar 3) (eVar 3)) (aCons (eCall fList (aCons (eVar 3) aNil)) (aCons (eOp oAdd (eSl (eVar 3) pNone (pSome (eNeg (eC (.int 1))))) (eTup (aCons (eC (.int 2)) aNil))) (aCons (eOp oAdd (eSl (eVar 3) pNone (pSome (eNeg (eC (.int 1))))) (eTup (aCons (eC (.bl true)) aNil))) aNil)))))))) (gtName 7))
    (sSeq (sAsg (eOp oAdd (eVar 7) (eIf (tsE (eOp oEq (eVar 1) (eC (.str "words")))) (eLst (aCons (eOp oMulA (eTup (aCons (eC (.int 0)) aNil)) (eC (.int 65))) (aCons (eOp oAdd (eOp oMulA (eTup (aCons (eC (.int 1)) aNil)) (eC (.int 5))) (eOp oMulA (eTup (aCons (eC (.int 0)) aNil)) (eC (.int 5)))) (aCons (eSl (eVar 3) pNone (pSome (eNeg (eC (.int 5))))) (aCons (eOp oMulA (eTup (aCons (eC (.int 0)) aNil)) (eC (.int 5))) (aCons (eOp oAdd (eOp oMulA (eTup (aCons (eC (.int 0)) (aCons (eC (.int 0)) (aCons (eC (.int 0)) (aCons (eC (.int 0)) (aCons (eC (.int 1)) aNil)))))) (eC (.int 13))) (eOp oMulA (eTup (aCons (eC (.int 0)) aNil)) (eC (.int 5)))) aNil)))))) (eLst (aCons (eSl (eVar 3) pNone (pSome (eC (.int 12)))) (aCons (eOp oAdd (eVar 3) (eTup (aCons (eC (.int 0)) (aCons (eC (.int 0)) (aCons (eC (.int 0)) (aCons (eC (.int 0)) aNil)))))) aNil))))) (gtName 7))
    (sSeq (sAsg (eCall (F__law_pick K) (aCons (eVar 0) (aCons (eVar 7) aNil))) (gtName 8))
    (sRet (eCall (F__law_alike K 4) (aCons (eLam 3 (tb K 3) "_law_refused.<locals>.<lambda>" (CB K) (CR K) (eCall (F_key_of_bits K) (aCons (eVar 1) (aCons (eVar 8) aNil)))) (aCons (eTup (aCons (eC (.str "bad")) (aCons (eC (.str "bits")) (aCons (eC (.bl true)) aNil)))) aNil)))))))))))
def F__law_refused (K : PySem.W.Frag) : FN := mkF 4 9 (b__law_refused K)
def b_law (K : PySem.W.Frag) : FS := (sSeq (sAsg (eNew (aCons (eVar 0) (aCons (eC (.int 0)) (aCons (eC (.int 7401501)) (aCons (eC (.int 0)) aNil))))) (gtName 1))
    (sSeq (sAsg (eCall (F__law_family K) (aCons (eVar 1) aNil)) (gtName 2))
    (sSeq (sPar 4 5 (aCons (eCall (F__law_key K) (aCons (eVar 1) (aCons (eVar 2) aNil))) (aCons (eCall (F__law_key K) (aCons (eVar 1) (aCons (eVar 2) aNil))) aNil)))
    (sSeq (sAsg (eTup (aCons (eCall (F__law_bits K) (aCons (eVar 2) (aCons (eVar 4) aNil))) (aCons (eCall (F__law_bits K) (aCons (eVar 2) (aCons (eVar 5) aNil))) aNil))) (gtTup [6, 7]))
    (sSeq (sIf (tsNot (tsE (eCall (F__law_alike K 4) (aCons (eLst (aCons (eCall (F_letters_of K) (aCons (eVar 2) (aCons (eVar 4) aNil))) (aCons (eCall (F_bits_of K) (aCons (eVar 2) (aCons (eVar 4) aNil))) aNil))) (aCons (eLst (aCons (eCall (F__law_letters K) (aCons (eVar 2) (aCons (eVar 4) aNil))) (aCons (eVar 6) aNil))) aNil))))) (sRet (eC (.bl false))) sNext)
    (sSeq (sIf (tsOr (tsNot (tsE (eCall (F__law_alike K 4) (aCons (eCall (F_key_of_bits K) (aCons (eVar 2) (aCons (eVar 6) aNil))) (aCons (eVar 4) aNil))))) (tsE (eOp oNe (eOp oLt (eCall (F_bits_of K) (aCons (eVar 2) (aCons (eVar 4) aNil))) (eCall (F_bits_of K) (aCons (eVar 2) (aCons (eVar 5) aNil)))) (eOp oLt (eVar 4) (eVar 5))))) (sRet (eC (.bl false))) sNext)
    (sSeq (sAsg (eComp (fRng1 (aCons (eCall fMin (aCons (eCall fLen (aCons (eVar 6) aNil)) (aCons (eCall fLen (aCons (eVar 7) aNil)) aNil))) aNil)) (.nm 8) (tsE (eOp oNe (eOp oIx (eVar 6) (eVar 8)) (eOp oIx (eVar 7) (eVar 8)))) (eVar 8) [8]) (gtName 3))
    (sSeq (sIf (tsNot (tsE (eCall (F__law_alike K 4) (aCons (eCall (F_first_unlike K) (aCons (eVar 2) (aCons (eVar 4) (aCons (eVar 5) aNil)))) (aCons (eIf (tsE (eOp oEq (eVar 4) (eVar 5))) (eC .non) (eOp oIx (eVar 3) (eC (.int 0)))) aNil))))) (sRet (eC (.bl false))) sNext)
    (sRet (eCall (F__law_refused K) (aCons (eVar 1) (aCons (eVar 2) (aCons (eVar 4) (aCons (eVar 6) aNil))))))))))))))
def F_law (K : PySem.W.Frag) : FN := mkF 1 9 (b_law K)
/-- what the derivations lean on -/
structure Tx (P : Program) (w : World) (K : PySem.W.Frag) (mg : Str → Option Value) (base : Heap) : Prop where
  m_ValueError : mg "ValueError" = none
  m_all : mg "all" = none
  m_any : mg "any" = none
  m_bool : mg "bool" = none
  m_dict : mg "dict" = none
  m_int : mg "int" = none
  m_isinstance : mg "isinstance" = none
  m_len : mg "len" = none
  m_list : mg "list" = none
  m_min : mg "min" = none
  m_range : mg "range" = none
  m_str : mg "str" = none
  m_super : mg "super" = none
  m_tuple : mg "tuple" = none
  k_DIGIT_BITS : KonD K mg "DIGIT_BITS" (.int 4)
  k_FAMILIES : KonD K mg "FAMILIES" (.tup [.str "numbers", .str "words"])
  k_KEY_BITS : KonD K mg "KEY_BITS" (.int 16)
  k_LETTERS : KonD K mg "LETTERS" (.str "abcdefghijklmnopqrstuvwxyz")
  k_LETTER_BITS : KonD K mg "LETTER_BITS" (.int 5)
  k_MOST_KEY : KonD K mg "MOST_KEY" (.int 65535)
  k_MOST_LETTERS : KonD K mg "MOST_LETTERS" (.int 12)
  k_NUMBERS : KonD K mg "NUMBERS" (.str "numbers")
  own_BadArgument : ∃ cc cda, PySem.OwnX.OwnTxt P K mg base "BadArgument" "name" "bad argument: " (CB K) (He.ma K (CB K) "__init__") cc cda
  own_Refused : ∃ cc cda, PySem.OwnX.OwnTxt P K mg base "Refused" "why" "refused: " (CR K) (He.ma K (CR K) "__init__") cc cda
  heard : HeardFn K mg "_law_heard" (CB K) (CR K)
  tabs : ∀ p ∈ tfs, LamX.TabB base mg (He.cT K p.1).1 (He.cT K p.1).2
  d_is_number : DefAt K mg "is_number" (defArgs (top 15)) (defBody (top 15)) (defScope (top 15))
  d_check : DefAt K mg "check" (defArgs (top 16)) (defBody (top 16)) (defScope (top 16))
  d_is_word : DefAt K mg "is_word" (defArgs (top 17)) (defBody (top 17)) (defScope (top 17))
  d_is_family : DefAt K mg "is_family" (defArgs (top 18)) (defBody (top 18)) (defScope (top 18))
  d_is_key : DefAt K mg "is_key" (defArgs (top 19)) (defBody (top 19)) (defScope (top 19))
  d_row_of : DefAt K mg "row_of" (defArgs (top 21)) (defBody (top 21)) (defScope (top 21))
  d_bits_in : DefAt K mg "bits_in" (defArgs (top 22)) (defBody (top 22)) (defScope (top 22))
  d_unlike_place : DefAt K mg "unlike_place" (defArgs (top 23)) (defBody (top 23)) (defScope (top 23))
  d_letters_of : DefAt K mg "letters_of" (defArgs (top 24)) (defBody (top 24)) (defScope (top 24))
  d_bits_of : DefAt K mg "bits_of" (defArgs (top 25)) (defBody (top 25)) (defScope (top 25))
  d_first_unlike : DefAt K mg "first_unlike" (defArgs (top 26)) (defBody (top 26)) (defScope (top 26))
  d_key_of_row : DefAt K mg "key_of_row" (defArgs (top 28)) (defBody (top 28)) (defScope (top 28))
  d_key_of_bits : DefAt K mg "key_of_bits" (defArgs (top 27)) (defBody (top 27)) (defScope (top 27))
  d__law_taken : DefAt K mg "_law_taken" (defArgs (top 30)) (defBody (top 30)) (defScope (top 30))
  d__law_pick : DefAt K mg "_law_pick" (defArgs (top 31)) (defBody (top 31)) (defScope (top 31))
  d__law_family : DefAt K mg "_law_family" (defArgs (top 32)) (defBody (top 32)) (defScope (top 32))
  d__law_word : DefAt K mg "_law_word" (defArgs (top 33)) (defBody (top 33)) (defScope (top 33))
  d__law_key : DefAt K mg "_law_key" (defArgs (top 34)) (defBody (top 34)) (defScope (top 34))
  d__law_letters : DefAt K mg "_law_letters" (defArgs (top 35)) (defBody (top 35)) (defScope (top 35))
  d__law_bits : DefAt K mg "_law_bits" (defArgs (top 36)) (defBody (top 36)) (defScope (top 36))
  d__law_alike : DefAt K mg "_law_alike" (defArgs (top 37)) (defBody (top 37)) (defScope (top 37))
  d__law_refused : DefAt K mg "_law_refused" (defArgs (top 39)) (defBody (top 39)) (defScope (top 39))
  d_law : DefAt K mg "law" (defArgs (top 40)) (defBody (top 40)) (defScope (top 40))
section
variable {P : Program} {w : World} {K : PySem.W.Frag} {mg : Str → Option Value} {base : Heap}
theorem Tx.tab (T : Tx P w K mg base) (i : Nat) (h : i < 4 := by decide) : LamX.TabB base mg (He.cT K (tfs.getD i (("", none), "")).1).1 (tb K i) := T.tabs _ (by
  rw [List.getD_eq_getElem?_getD, List.getElem?_eq_getElem (show i < tfs.length from h)]
  exact List.getElem_mem _)
theorem sc_is_number : FnScope [("value" : Str), ("low" : Str), ("high" : Str)] [("value" : Str), ("low" : Str), ("high" : Str)] (defScope (top 15)) := ⟨by kernel_rfl, by kernel_rfl, by kernel_rfl, by decide +kernel, by kernel_rfl, by decide +kernel, by decide +kernel⟩
theorem r_is_number (T : Tx P w K mg base) : Ready P w K mg base 2 "is_number" (F_is_number K) := by
  refine ready_mk (N := [("value" : Str), ("low" : Str), ("high" : Str)]) (ps := [("value" : Str), ("low" : Str), ("high" : Str)]) (n := 3) (m := 3) (k := 1) T.d_is_number sc_is_number rfl rfl (fun _ _ _ _ _ _ us hl => match us, hl with | [_, _, _], _ => rfl) fun cc A outer s H E hcc hr => ?_
  subst hcc
  exact (rss_one (rs_ret (re_and (re_isi rfl T.m_isinstance (re_var (i := 0) rfl (by first | exact .inl rfl | exact .inr (.inl rfl) | exact .inr (.inr rfl))) rfl T.m_int bt_int) (re_and (re_not (re_isi rfl T.m_isinstance (re_var (i := 0) rfl (by first | exact .inl rfl | exact .inr (.inl rfl) | exact .inr (.inr rfl))) rfl T.m_bool bt_bool)) (re_one (re_chain ro_le ro_le (re_var (i := 1) rfl (by first | exact .inl rfl | exact .inr (.inl rfl) | exact .inr (.inr rfl))) (re_var (i := 0) rfl (by first | exact .inl rfl | exact .inr (.inl rfl) | exact .inr (.inr rfl))) (re_var (i := 2) rfl (by first | exact .inl rfl | exact .inr (.inl rfl) | exact .inr (.inr rfl)))))))))
theorem sc_check : FnScope [("is_right" : Str), ("name" : Str)] [("is_right" : Str), ("name" : Str)] (defScope (top 16)) := ⟨by kernel_rfl, by kernel_rfl, by kernel_rfl, by decide +kernel, by kernel_rfl, by decide +kernel, by decide +kernel⟩
theorem r_check (T : Tx P w K mg base) : Ready P w K mg base 2 "check" (F_check K) := by
  refine ready_mk (N := [("is_right" : Str), ("name" : Str)]) (ps := [("is_right" : Str), ("name" : Str)]) (n := 2) (m := 2) (k := 1) T.d_check sc_check rfl rfl (fun _ _ _ _ _ _ us hl => match us, hl with | [_, _], _ => rfl) fun cc A outer s H E hcc hr => ?_
  subst hcc
  exact (rss_one (rs_if (rt_not (rt_val (re_var (i := 0) rfl (by first | exact .inl rfl | exact .inr (.inl rfl) | exact .inr (.inr rfl))))) (rss_one (own_raise T.own_BadArgument (fun T2 => rs_raise rfl (takes_of rfl rfl rfl rfl) T2 OwnX.fld_name (by decide) hr (re_var (i := 1) rfl (by first | exact .inl rfl | exact .inr (.inl rfl) | exact .inr (.inr rfl))) rfl))) rss_nil))
theorem sc_is_word : FnScope [("value" : Str), ("sign" : Str)] [("value" : Str)] (defScope (top 17)) := ⟨by kernel_rfl, by kernel_rfl, by kernel_rfl, by decide +kernel, by kernel_rfl, by decide +kernel, by decide +kernel⟩
theorem r_is_word (T : Tx P w K mg base) : Ready P w K mg base 4 "is_word" (F_is_word K) := by
  refine ready_mk (N := [("value" : Str), ("sign" : Str)]) (ps := [("value" : Str)]) (n := 1) (m := 2) (k := 3) T.d_is_word sc_is_word rfl rfl (fun _ _ _ _ _ _ us hl => match us, hl with | [_], _ => rfl) fun cc A outer s H E hcc hr => ?_
  subst hcc
  exact (rss_cons (rs_if (rt_w (rw_or (rt_not (rt_val (re_isi rfl T.m_isinstance (re_var (i := 0) rfl (by first | exact .inl rfl | exact .inr (.inl rfl) | exact .inr (.inr rfl))) rfl T.m_str bt_str))) (rw_or1 (rt_not (rt_chain ro_le ro_le re_int (re_cb (rcl_len) rfl T.m_len bt_len (ra_cons (re_var (i := 0) rfl (by first | exact .inl rfl | exact .inr (.inl rfl) | exact .inr (.inr rfl))) ra_nil)) (re_glob rfl T.k_MOST_LETTERS)))))) (rss_one (rs_ret re_bl)) rss_nil)
      (rss_one (rs_ret (re_q (stop := false) (n := 0) (P := tb K 0) (q := "is_word.<locals>.<genexpr>") (tg := .nm 1) (own := [(("sign" : Str), 1)]) qcall_all hr rfl sc_is_word.nd rfl T.m_all bt_all (ri_seq (re_var (i := 0) rfl (by first | exact .inl rfl | exact .inr (.inl rfl) | exact .inr (.inr rfl)))) (genOk_by (by kernel_rfl)) (by kernel_rfl) (T.tab 0) rfl (by kernel_rfl) (fun _ _ _ _ _ => pg_name (i := 1) sc_is_word.nd rfl (.inl rfl)) (fun _ _ _ _ _ => (re_cmp ro_in (re_var (i := 1) rfl (by first | exact .inl rfl | exact .inr (.inl rfl) | exact .inr (.inr rfl))) (re_glob rfl T.k_LETTERS) rfl))))))
theorem sc_is_family : FnScope [("value" : Str)] [("value" : Str)] (defScope (top 18)) := ⟨by kernel_rfl, by kernel_rfl, by kernel_rfl, by decide +kernel, by kernel_rfl, by decide +kernel, by decide +kernel⟩
theorem r_is_family (T : Tx P w K mg base) : Ready P w K mg base 2 "is_family" (F_is_family K) := by
  refine ready_mk (N := [("value" : Str)]) (ps := [("value" : Str)]) (n := 1) (m := 1) (k := 1) T.d_is_family sc_is_family rfl rfl (fun _ _ _ _ _ _ us hl => match us, hl with | [_], _ => rfl) fun cc A outer s H E hcc hr => ?_
  subst hcc
  exact (rss_one (rs_ret (re_and (re_isi rfl T.m_isinstance (re_var (i := 0) rfl (by first | exact .inl rfl | exact .inr (.inl rfl) | exact .inr (.inr rfl))) rfl T.m_str bt_str) (re_one (re_cmp ro_in (re_var (i := 0) rfl (by first | exact .inl rfl | exact .inr (.inl rfl) | exact .inr (.inr rfl))) (re_glob rfl T.k_FAMILIES) rfl)))))
theorem sc_is_key : FnScope [("family" : Str), ("value" : Str)] [("family" : Str), ("value" : Str)] (defScope (top 19)) := ⟨by kernel_rfl, by kernel_rfl, by kernel_rfl, by decide +kernel, by kernel_rfl, by decide +kernel, by decide +kernel⟩
theorem r_is_key (T : Tx P w K mg base) : Ready P w K mg base 5 "is_key" (F_is_key K) := by
  refine ready_mk (N := [("family" : Str), ("value" : Str)]) (ps := [("family" : Str), ("value" : Str)]) (n := 2) (m := 2) (k := 4) T.d_is_key sc_is_key rfl rfl (fun _ _ _ _ _ _ us hl => match us, hl with | [_, _], _ => rfl) fun cc A outer s H E hcc hr => ?_
  subst hcc
  exact (rss_one (rs_ret (re_if (rt_cmp (ro_eq hr) (re_var (i := 0) rfl (by first | exact .inl rfl | exact .inr (.inl rfl) | exact .inr (.inr rfl))) (re_glob rfl T.k_NUMBERS) rfl) (re_call (r_is_number T) (takes_of rfl rfl rfl rfl) hr (by decide) rfl (ra_cons (re_var (i := 1) rfl (by first | exact .inl rfl | exact .inr (.inl rfl) | exact .inr (.inr rfl))) (ra_cons re_int (ra_cons (re_glob rfl T.k_MOST_KEY) ra_nil)))) (re_call (r_is_word T) (takes_of rfl rfl rfl rfl) hr (by decide) rfl (ra_cons (re_var (i := 1) rfl (by first | exact .inl rfl | exact .inr (.inl rfl) | exact .inr (.inr rfl))) ra_nil)))))
theorem sc_row_of : FnScope [("family" : Str), ("key" : Str), ("place" : Str), ("sign" : Str)] [("family" : Str), ("key" : Str)] (defScope (top 21)) := ⟨by kernel_rfl, by kernel_rfl, by kernel_rfl, by decide +kernel, by kernel_rfl, by decide +kernel, by decide +kernel⟩
theorem r_row_of (T : Tx P w K mg base) : Ready P w K mg base 2 "row_of" (F_row_of K) := by
  refine ready_mk (N := [("family" : Str), ("key" : Str), ("place" : Str), ("sign" : Str)]) (ps := [("family" : Str), ("key" : Str)]) (n := 2) (m := 4) (k := 1) T.d_row_of sc_row_of rfl rfl (fun _ _ _ _ _ _ us hl => match us, hl with | [_, _], _ => rfl) fun cc A outer s H E hcc hr => ?_
  subst hcc
  exact (rss_cons (rs_if (rt_cmp (ro_eq hr) (re_var (i := 0) rfl (by first | exact .inl rfl | exact .inr (.inl rfl) | exact .inr (.inr rfl))) (re_glob rfl T.k_NUMBERS) rfl) (rss_one (rs_ret (re_tupOf rfl T.m_tuple (re_lc (tg := .nm 2) (own := [(("place" : Str), 2)]) rfl sc_row_of.nd (ri_rng3 rfl T.m_range (ra_cons (re_op ro_sub (re_glob rfl T.k_KEY_BITS) (re_glob rfl T.k_DIGIT_BITS)) (ra_cons (re_neg re_int) (ra_cons (re_neg (re_glob rfl T.k_DIGIT_BITS)) ra_nil)))) (by kernel_rfl) (by kernel_rfl) (fun _ _ _ _ _ => pg_name (i := 2) sc_row_of.nd rfl (.inl rfl)) (fun _ _ _ _ _ => (re_op ro_and (re_op ro_shr (re_var (i := 1) rfl (by first | exact .inl rfl | exact .inr (.inl rfl) | exact .inr (.inr rfl))) (re_var (i := 2) rfl (by first | exact .inl rfl | exact .inr (.inl rfl) | exact .inr (.inr rfl)))) re_int)))))) rss_nil)
      (rss_one (rs_ret (re_tupOf rfl T.m_tuple (re_op ro_add (re_lc (tg := .nm 3) (own := [(("sign" : Str), 3)]) rfl sc_row_of.nd (ri_seq (re_var (i := 1) rfl (by first | exact .inl rfl | exact .inr (.inl rfl) | exact .inr (.inr rfl)))) (by kernel_rfl) (by kernel_rfl) (fun _ _ _ _ _ => pg_name (i := 3) sc_row_of.nd rfl (.inl rfl)) (fun _ _ _ _ _ => (re_op ro_add (re_idx (re_glob rfl T.k_LETTERS) (re_var (i := 3) rfl (by first | exact .inl rfl | exact .inr (.inl rfl) | exact .inr (.inr rfl)))) re_int))) (re_lst (ra_cons re_int ra_nil)))))))
theorem sc_bits_in : FnScope [("family" : Str), ("key" : Str), ("size" : Str), ("found" : Str), ("letter" : Str), ("place" : Str)] [("family" : Str), ("key" : Str)] (defScope (top 22)) := ⟨by kernel_rfl, by kernel_rfl, by kernel_rfl, by decide +kernel, by kernel_rfl, by decide +kernel, by decide +kernel⟩
theorem r_bits_in (T : Tx P w K mg base) : Ready P w K mg base 3 "bits_in" (F_bits_in K) := by
  refine ready_mk (N := [("family" : Str), ("key" : Str), ("size" : Str), ("found" : Str), ("letter" : Str), ("place" : Str)]) (ps := [("family" : Str), ("key" : Str)]) (n := 2) (m := 6) (k := 2) T.d_bits_in sc_bits_in rfl rfl (fun _ _ _ _ _ _ us hl => match us, hl with | [_, _], _ => rfl) fun cc A outer s H E hcc hr => ?_
  subst hcc
  exact (rss_cons (rs_set (i := 2) sc_bits_in.nd rfl (by first | exact .inl rfl | exact .inr rfl) (re_if (rt_cmp (ro_eq hr) (re_var (i := 0) rfl (by first | exact .inl rfl | exact .inr (.inl rfl) | exact .inr (.inr rfl))) (re_glob rfl T.k_NUMBERS) rfl) (re_glob rfl T.k_DIGIT_BITS) (re_glob rfl T.k_LETTER_BITS)))
      (rss_cons (rs_set (i := 3) sc_bits_in.nd rfl (by first | exact .inl rfl | exact .inr rfl) (re_new ra_nil))
      (rss_cons (rs_for (passes_of rfl) rfl (ri_seq (re_call (r_row_of T) (takes_of rfl rfl rfl rfl) hr (by decide) rfl (ra_cons (re_var (i := 0) rfl (by first | exact .inl rfl | exact .inr (.inl rfl) | exact .inr (.inr rfl))) (ra_cons (re_var (i := 1) rfl (by first | exact .inl rfl | exact .inr (.inl rfl) | exact .inr (.inr rfl))) ra_nil)))) (rg_name (i := 4) sc_bits_in.nd rfl (by first | exact .inl rfl | exact .inr rfl)) (rss_one (rs_drop (re_ext (re_var (i := 3) rfl (by first | exact .inl rfl | exact .inr (.inl rfl) | exact .inr (.inr rfl))) (re_lc (tg := .nm 5) (own := [(("place" : Str), 5)]) rfl sc_bits_in.nd (ri_rng3 rfl T.m_range (ra_cons (re_op ro_sub (re_var (i := 2) rfl (by first | exact .inl rfl | exact .inr (.inl rfl) | exact .inr (.inr rfl))) re_int) (ra_cons (re_neg re_int) (ra_cons (re_neg re_int) ra_nil)))) (by kernel_rfl) (by kernel_rfl) (fun _ _ _ _ _ => pg_name (i := 5) sc_bits_in.nd rfl (.inl rfl)) (fun _ _ _ _ _ => (re_op ro_and (re_op ro_shr (re_var (i := 4) rfl (by first | exact .inl rfl | exact .inr (.inl rfl) | exact .inr (.inr rfl))) (re_var (i := 5) rfl (by first | exact .inl rfl | exact .inr (.inl rfl) | exact .inr (.inr rfl)))) re_int)))))))
      (rss_one (rs_ret (re_tupOf rfl T.m_tuple (re_var (i := 3) rfl (by first | exact .inl rfl | exact .inr (.inl rfl) | exact .inr (.inr rfl)))))))))
theorem sc_unlike_place : FnScope [("one" : Str), ("other" : Str), ("place" : Str)] [("one" : Str), ("other" : Str)] (defScope (top 23)) := ⟨by kernel_rfl, by kernel_rfl, by kernel_rfl, by decide +kernel, by kernel_rfl, by decide +kernel, by decide +kernel⟩
theorem r_unlike_place (T : Tx P w K mg base) : Ready P w K mg base 2 "unlike_place" (F_unlike_place K) := by
  refine ready_mk (N := [("one" : Str), ("other" : Str), ("place" : Str)]) (ps := [("one" : Str), ("other" : Str)]) (n := 2) (m := 3) (k := 1) T.d_unlike_place sc_unlike_place rfl rfl (fun _ _ _ _ _ _ us hl => match us, hl with | [_, _], _ => rfl) fun cc A outer s H E hcc hr => ?_
  subst hcc
  exact (rss_cons (rs_set (i := 2) sc_unlike_place.nd rfl (by first | exact .inl rfl | exact .inr rfl) re_int)
      (rss_cons (rs_while (n := 200) (passes_of rfl) (rt_cmp (ro_eq hr) (re_ix (re_var (i := 0) rfl (by first | exact .inl rfl | exact .inr (.inl rfl) | exact .inr (.inr rfl))) (re_var (i := 2) rfl (by first | exact .inl rfl | exact .inr (.inl rfl) | exact .inr (.inr rfl)))) (re_ix (re_var (i := 1) rfl (by first | exact .inl rfl | exact .inr (.inl rfl) | exact .inr (.inr rfl))) (re_var (i := 2) rfl (by first | exact .inl rfl | exact .inr (.inl rfl) | exact .inr (.inr rfl)))) rfl) (rss_one (rs_aug (i := 2) sc_unlike_place.nd rfl (by first | exact .inl rfl | exact .inr rfl) re_int)))
      (rss_one (rs_ret (re_var (i := 2) rfl (by first | exact .inl rfl | exact .inr (.inl rfl) | exact .inr (.inr rfl)))))))
theorem sc_letters_of : FnScope [("family" : Str), ("key" : Str)] [("family" : Str), ("key" : Str)] (defScope (top 24)) := ⟨by kernel_rfl, by kernel_rfl, by kernel_rfl, by decide +kernel, by kernel_rfl, by decide +kernel, by decide +kernel⟩
theorem r_letters_of (T : Tx P w K mg base) : Ready P w K mg base 6 "letters_of" (F_letters_of K) := by
  refine ready_mk (N := [("family" : Str), ("key" : Str)]) (ps := [("family" : Str), ("key" : Str)]) (n := 2) (m := 2) (k := 5) T.d_letters_of sc_letters_of rfl rfl (fun _ _ _ _ _ _ us hl => match us, hl with | [_, _], _ => rfl) fun cc A outer s H E hcc hr => ?_
  subst hcc
  exact (rss_cons (rs_drop (re_call (r_check T) (takes_of rfl rfl rfl rfl) hr (by decide) rfl (ra_cons (re_call (r_is_family T) (takes_of rfl rfl rfl rfl) hr (by decide) rfl (ra_cons (re_var (i := 0) rfl (by first | exact .inl rfl | exact .inr (.inl rfl) | exact .inr (.inr rfl))) ra_nil)) (ra_cons re_str ra_nil))))
      (rss_cons (rs_drop (re_call (r_check T) (takes_of rfl rfl rfl rfl) hr (by decide) rfl (ra_cons (re_call (r_is_key T) (takes_of rfl rfl rfl rfl) hr (by decide) rfl (ra_cons (re_var (i := 0) rfl (by first | exact .inl rfl | exact .inr (.inl rfl) | exact .inr (.inr rfl))) (ra_cons (re_var (i := 1) rfl (by first | exact .inl rfl | exact .inr (.inl rfl) | exact .inr (.inr rfl))) ra_nil))) (ra_cons re_str ra_nil))))
      (rss_one (rs_ret (re_call (r_row_of T) (takes_of rfl rfl rfl rfl) hr (by decide) rfl (ra_cons (re_var (i := 0) rfl (by first | exact .inl rfl | exact .inr (.inl rfl) | exact .inr (.inr rfl))) (ra_cons (re_var (i := 1) rfl (by first | exact .inl rfl | exact .inr (.inl rfl) | exact .inr (.inr rfl))) ra_nil)))))))
theorem sc_bits_of : FnScope [("family" : Str), ("key" : Str)] [("family" : Str), ("key" : Str)] (defScope (top 25)) := ⟨by kernel_rfl, by kernel_rfl, by kernel_rfl, by decide +kernel, by kernel_rfl, by decide +kernel, by decide +kernel⟩
theorem r_bits_of (T : Tx P w K mg base) : Ready P w K mg base 6 "bits_of" (F_bits_of K) := by
  refine ready_mk (N := [("family" : Str), ("key" : Str)]) (ps := [("family" : Str), ("key" : Str)]) (n := 2) (m := 2) (k := 5) T.d_bits_of sc_bits_of rfl rfl (fun _ _ _ _ _ _ us hl => match us, hl with | [_, _], _ => rfl) fun cc A outer s H E hcc hr => ?_
  subst hcc
  exact (rss_cons (rs_drop (re_call (r_check T) (takes_of rfl rfl rfl rfl) hr (by decide) rfl (ra_cons (re_call (r_is_family T) (takes_of rfl rfl rfl rfl) hr (by decide) rfl (ra_cons (re_var (i := 0) rfl (by first | exact .inl rfl | exact .inr (.inl rfl) | exact .inr (.inr rfl))) ra_nil)) (ra_cons re_str ra_nil))))
      (rss_cons (rs_drop (re_call (r_check T) (takes_of rfl rfl rfl rfl) hr (by decide) rfl (ra_cons (re_call (r_is_key T) (takes_of rfl rfl rfl rfl) hr (by decide) rfl (ra_cons (re_var (i := 0) rfl (by first | exact .inl rfl | exact .inr (.inl rfl) | exact .inr (.inr rfl))) (ra_cons (re_var (i := 1) rfl (by first | exact .inl rfl | exact .inr (.inl rfl) | exact .inr (.inr rfl))) ra_nil))) (ra_cons re_str ra_nil))))
      (rss_one (rs_ret (re_call (r_bits_in T) (takes_of rfl rfl rfl rfl) hr (by decide) rfl (ra_cons (re_var (i := 0) rfl (by first | exact .inl rfl | exact .inr (.inl rfl) | exact .inr (.inr rfl))) (ra_cons (re_var (i := 1) rfl (by first | exact .inl rfl | exact .inr (.inl rfl) | exact .inr (.inr rfl))) ra_nil)))))))
theorem sc_first_unlike : FnScope [("family" : Str), ("one" : Str), ("other" : Str)] [("family" : Str), ("one" : Str), ("other" : Str)] (defScope (top 26)) := ⟨by kernel_rfl, by kernel_rfl, by kernel_rfl, by decide +kernel, by kernel_rfl, by decide +kernel, by decide +kernel⟩
theorem r_first_unlike (T : Tx P w K mg base) : Ready P w K mg base 6 "first_unlike" (F_first_unlike K) := by
  refine ready_mk (N := [("family" : Str), ("one" : Str), ("other" : Str)]) (ps := [("family" : Str), ("one" : Str), ("other" : Str)]) (n := 3) (m := 3) (k := 5) T.d_first_unlike sc_first_unlike rfl rfl (fun _ _ _ _ _ _ us hl => match us, hl with | [_, _, _], _ => rfl) fun cc A outer s H E hcc hr => ?_
  subst hcc
  exact (rss_cons (rs_drop (re_call (r_check T) (takes_of rfl rfl rfl rfl) hr (by decide) rfl (ra_cons (re_call (r_is_family T) (takes_of rfl rfl rfl rfl) hr (by decide) rfl (ra_cons (re_var (i := 0) rfl (by first | exact .inl rfl | exact .inr (.inl rfl) | exact .inr (.inr rfl))) ra_nil)) (ra_cons re_str ra_nil))))
      (rss_cons (rs_drop (re_call (r_check T) (takes_of rfl rfl rfl rfl) hr (by decide) rfl (ra_cons (re_call (r_is_key T) (takes_of rfl rfl rfl rfl) hr (by decide) rfl (ra_cons (re_var (i := 0) rfl (by first | exact .inl rfl | exact .inr (.inl rfl) | exact .inr (.inr rfl))) (ra_cons (re_var (i := 1) rfl (by first | exact .inl rfl | exact .inr (.inl rfl) | exact .inr (.inr rfl))) ra_nil))) (ra_cons re_str ra_nil))))
      (rss_cons (rs_drop (re_call (r_check T) (takes_of rfl rfl rfl rfl) hr (by decide) rfl (ra_cons (re_call (r_is_key T) (takes_of rfl rfl rfl rfl) hr (by decide) rfl (ra_cons (re_var (i := 0) rfl (by first | exact .inl rfl | exact .inr (.inl rfl) | exact .inr (.inr rfl))) (ra_cons (re_var (i := 2) rfl (by first | exact .inl rfl | exact .inr (.inl rfl) | exact .inr (.inr rfl))) ra_nil))) (ra_cons re_str ra_nil))))
      (rss_one (rs_ret (re_if (rt_cmp (ro_eq hr) (re_var (i := 1) rfl (by first | exact .inl rfl | exact .inr (.inl rfl) | exact .inr (.inr rfl))) (re_var (i := 2) rfl (by first | exact .inl rfl | exact .inr (.inl rfl) | exact .inr (.inr rfl))) rfl) re_non (re_call (r_unlike_place T) (takes_of rfl rfl rfl rfl) hr (by decide) rfl (ra_cons (re_call (r_bits_in T) (takes_of rfl rfl rfl rfl) hr (by decide) rfl (ra_cons (re_var (i := 0) rfl (by first | exact .inl rfl | exact .inr (.inl rfl) | exact .inr (.inr rfl))) (ra_cons (re_var (i := 1) rfl (by first | exact .inl rfl | exact .inr (.inl rfl) | exact .inr (.inr rfl))) ra_nil))) (ra_cons (re_call (r_bits_in T) (takes_of rfl rfl rfl rfl) hr (by decide) rfl (ra_cons (re_var (i := 0) rfl (by first | exact .inl rfl | exact .inr (.inl rfl) | exact .inr (.inr rfl))) (ra_cons (re_var (i := 2) rfl (by first | exact .inl rfl | exact .inr (.inl rfl) | exact .inr (.inr rfl))) ra_nil))) ra_nil)))))))))
theorem sc_key_of_row : FnScope [("family" : Str), ("row" : Str), ("found" : Str), ("digit" : Str), ("letter" : Str)] [("family" : Str), ("row" : Str)] (defScope (top 28)) := ⟨by kernel_rfl, by kernel_rfl, by kernel_rfl, by decide +kernel, by kernel_rfl, by decide +kernel, by decide +kernel⟩
theorem r_key_of_row (T : Tx P w K mg base) : Ready P w K mg base 5 "key_of_row" (F_key_of_row K) := by
  refine ready_mk (N := [("family" : Str), ("row" : Str), ("found" : Str), ("digit" : Str), ("letter" : Str)]) (ps := [("family" : Str), ("row" : Str)]) (n := 2) (m := 5) (k := 4) T.d_key_of_row sc_key_of_row rfl rfl (fun _ _ _ _ _ _ us hl => match us, hl with | [_, _], _ => rfl) fun cc A outer s H E hcc hr => ?_
  subst hcc
  exact (rss_cons (rs_if (rt_cmp (ro_eq hr) (re_var (i := 0) rfl (by first | exact .inl rfl | exact .inr (.inl rfl) | exact .inr (.inr rfl))) (re_glob rfl T.k_NUMBERS) rfl) (rss_cons (rs_drop (re_call (r_check T) (takes_of rfl rfl rfl rfl) hr (by decide) rfl (ra_cons (re_cmp (ro_eq hr) (re_cb (rcl_len) rfl T.m_len bt_len (ra_cons (re_var (i := 1) rfl (by first | exact .inl rfl | exact .inr (.inl rfl) | exact .inr (.inr rfl))) ra_nil)) (re_op ro_div (re_glob rfl T.k_KEY_BITS) (re_glob rfl T.k_DIGIT_BITS)) rfl) (ra_cons re_str ra_nil))))
      (rss_cons (rs_set (i := 2) sc_key_of_row.nd rfl (by first | exact .inl rfl | exact .inr rfl) re_int)
      (rss_cons (rs_forV (passes_of rfl) rfl (re_var (i := 1) rfl (by first | exact .inl rfl | exact .inr (.inl rfl) | exact .inr (.inr rfl))) (rg_name (i := 3) sc_key_of_row.nd rfl (by first | exact .inl rfl | exact .inr rfl)) (rss_one (rs_set (i := 2) sc_key_of_row.nd rfl (by first | exact .inl rfl | exact .inr rfl) (re_op ro_add (re_op ro_mulA re_int (re_var (i := 2) rfl (by first | exact .inl rfl | exact .inr (.inl rfl) | exact .inr (.inr rfl)))) (re_var (i := 3) rfl (by first | exact .inl rfl | exact .inr (.inl rfl) | exact .inr (.inr rfl)))))))
      (rss_one (rs_ret (re_var (i := 2) rfl (by first | exact .inl rfl | exact .inr (.inl rfl) | exact .inr (.inr rfl)))))))) rss_nil)
      (rss_cons (rs_drop (re_call (r_check T) (takes_of rfl rfl rfl rfl) hr (by decide) rfl (ra_cons (re_and (re_cmp (ro_eq hr) (re_sl (re_var (i := 1) rfl (by first | exact .inl rfl | exact .inr (.inl rfl) | exact .inr (.inr rfl))) (rp_some (re_neg re_int)) rp_none) (re_lst (ra_cons re_int ra_nil)) rfl) (re_one (re_q (stop := false) (n := 1) (P := tb K 1) (q := "key_of_row.<locals>.<genexpr>") (tg := .nm 4) (own := [(("letter" : Str), 4)]) qcall_all hr rfl sc_key_of_row.nd rfl T.m_all bt_all (ri_seq (re_sl (re_var (i := 1) rfl (by first | exact .inl rfl | exact .inr (.inl rfl) | exact .inr (.inr rfl))) rp_none (rp_some (re_neg re_int)))) (genOk_by (by kernel_rfl)) (by kernel_rfl) (T.tab 1) rfl (by kernel_rfl) (fun _ _ _ _ _ => pg_name (i := 4) sc_key_of_row.nd rfl (.inl rfl)) (fun _ _ _ _ _ => (re_chain ro_le ro_le re_int (re_var (i := 4) rfl (by first | exact .inl rfl | exact .inr (.inl rfl) | exact .inr (.inr rfl))) (re_cb (rcl_len) rfl T.m_len bt_len (ra_cons (re_glob rfl T.k_LETTERS) ra_nil))))))) (ra_cons re_str ra_nil))))
      (rss_cons (rs_set (i := 2) sc_key_of_row.nd rfl (by first | exact .inl rfl | exact .inr rfl) (re_join re_str (re_lc (tg := .nm 4) (own := [(("letter" : Str), 4)]) rfl sc_key_of_row.nd (ri_seq (re_sl (re_var (i := 1) rfl (by first | exact .inl rfl | exact .inr (.inl rfl) | exact .inr (.inr rfl))) rp_none (rp_some (re_neg re_int)))) (by kernel_rfl) (by kernel_rfl) (fun _ _ _ _ _ => pg_name (i := 4) sc_key_of_row.nd rfl (.inl rfl)) (fun _ _ _ _ _ => (re_ix (re_glob rfl T.k_LETTERS) (re_op ro_sub (re_var (i := 4) rfl (by first | exact .inl rfl | exact .inr (.inl rfl) | exact .inr (.inr rfl))) re_int))))))
      (rss_cons (rs_drop (re_call (r_check T) (takes_of rfl rfl rfl rfl) hr (by decide) rfl (ra_cons (re_call (r_is_word T) (takes_of rfl rfl rfl rfl) hr (by decide) rfl (ra_cons (re_var (i := 2) rfl (by first | exact .inl rfl | exact .inr (.inl rfl) | exact .inr (.inr rfl))) ra_nil)) (ra_cons re_str ra_nil))))
      (rss_one (rs_ret (re_var (i := 2) rfl (by first | exact .inl rfl | exact .inr (.inl rfl) | exact .inr (.inr rfl)))))))))
theorem sc_key_of_bits : FnScope [("family" : Str), ("bits" : Str), ("size" : Str), ("row" : Str), ("place" : Str), ("letter" : Str), ("bit" : Str)] [("family" : Str), ("bits" : Str)] (defScope (top 27)) := ⟨by kernel_rfl, by kernel_rfl, by kernel_rfl, by decide +kernel, by kernel_rfl, by decide +kernel, by decide +kernel⟩
theorem r_key_of_bits (T : Tx P w K mg base) : Ready P w K mg base 6 "key_of_bits" (F_key_of_bits K) := by
  refine ready_mk (N := [("family" : Str), ("bits" : Str), ("size" : Str), ("row" : Str), ("place" : Str), ("letter" : Str), ("bit" : Str)]) (ps := [("family" : Str), ("bits" : Str)]) (n := 2) (m := 7) (k := 5) T.d_key_of_bits sc_key_of_bits rfl rfl (fun _ _ _ _ _ _ us hl => match us, hl with | [_, _], _ => rfl) fun cc A outer s H E hcc hr => ?_
  subst hcc
  exact (rss_cons (rs_drop (re_call (r_check T) (takes_of rfl rfl rfl rfl) hr (by decide) rfl (ra_cons (re_call (r_is_family T) (takes_of rfl rfl rfl rfl) hr (by decide) rfl (ra_cons (re_var (i := 0) rfl (by first | exact .inl rfl | exact .inr (.inl rfl) | exact .inr (.inr rfl))) ra_nil)) (ra_cons re_str ra_nil))))
      (rss_cons (rs_drop (re_call (r_check T) (takes_of rfl rfl rfl rfl) hr (by decide) rfl (ra_cons (re_and (re_isi rfl T.m_isinstance (re_var (i := 1) rfl (by first | exact .inl rfl | exact .inr (.inl rfl) | exact .inr (.inr rfl))) rfl T.m_tuple bt_tuple) (re_one (re_q (stop := false) (n := 2) (P := tb K 2) (q := "key_of_bits.<locals>.<genexpr>") (tg := .nm 6) (own := [(("bit" : Str), 6)]) qcall_all hr rfl sc_key_of_bits.nd rfl T.m_all bt_all (ri_seq (re_var (i := 1) rfl (by first | exact .inl rfl | exact .inr (.inl rfl) | exact .inr (.inr rfl)))) (genOk_by (by kernel_rfl)) (by kernel_rfl) (T.tab 2) rfl (by kernel_rfl) (fun _ _ _ _ _ => pg_name (i := 6) sc_key_of_bits.nd rfl (.inl rfl)) (fun _ _ _ _ _ => (re_and (re_isi rfl T.m_isinstance (re_var (i := 6) rfl (by first | exact .inl rfl | exact .inr (.inl rfl) | exact .inr (.inr rfl))) rfl T.m_int bt_int) (re_one (re_cmp ro_in (re_var (i := 6) rfl (by first | exact .inl rfl | exact .inr (.inl rfl) | exact .inr (.inr rfl))) (re_tup (ra_cons re_int (ra_cons re_int ra_nil))) rfl))))))) (ra_cons re_str ra_nil))))
      (rss_cons (rs_set (i := 2) sc_key_of_bits.nd rfl (by first | exact .inl rfl | exact .inr rfl) (re_if (rt_cmp (ro_eq hr) (re_var (i := 0) rfl (by first | exact .inl rfl | exact .inr (.inl rfl) | exact .inr (.inr rfl))) (re_glob rfl T.k_NUMBERS) rfl) (re_glob rfl T.k_DIGIT_BITS) (re_glob rfl T.k_LETTER_BITS)))
      (rss_cons (rs_drop (re_call (r_check T) (takes_of rfl rfl rfl rfl) hr (by decide) rfl (ra_cons (re_and (re_cmp (ro_eq hr) (re_op ro_mod (re_cb (rcl_len) rfl T.m_len bt_len (ra_cons (re_var (i := 1) rfl (by first | exact .inl rfl | exact .inr (.inl rfl) | exact .inr (.inr rfl))) ra_nil)) (re_var (i := 2) rfl (by first | exact .inl rfl | exact .inr (.inl rfl) | exact .inr (.inr rfl)))) re_int rfl) (re_one (re_not (re_q (stop := true) (n := 2) (P := tb K 2) (q := "key_of_bits.<locals>.<genexpr>") (tg := .nm 6) (own := [(("bit" : Str), 6)]) qcall_any hr rfl sc_key_of_bits.nd rfl T.m_any bt_any (ri_seq (re_var (i := 1) rfl (by first | exact .inl rfl | exact .inr (.inl rfl) | exact .inr (.inr rfl)))) (genOk_by (by kernel_rfl)) (by kernel_rfl) (T.tab 2) rfl (by kernel_rfl) (fun _ _ _ _ _ => pg_name (i := 6) sc_key_of_bits.nd rfl (.inl rfl)) (fun _ _ _ _ _ => (re_isi rfl T.m_isinstance (re_var (i := 6) rfl (by first | exact .inl rfl | exact .inr (.inl rfl) | exact .inr (.inr rfl))) rfl T.m_bool bt_bool)))))) (ra_cons re_str ra_nil))))
      (rss_cons (rs_set (i := 3) sc_key_of_bits.nd rfl (by first | exact .inl rfl | exact .inr rfl) (re_new ra_nil))
      (rss_cons (rs_for (passes_of rfl) rfl (ri_rng3 rfl T.m_range (ra_cons re_int (ra_cons (re_cb (rcl_len) rfl T.m_len bt_len (ra_cons (re_var (i := 1) rfl (by first | exact .inl rfl | exact .inr (.inl rfl) | exact .inr (.inr rfl))) ra_nil)) (ra_cons (re_var (i := 2) rfl (by first | exact .inl rfl | exact .inr (.inl rfl) | exact .inr (.inr rfl))) ra_nil)))) (rg_name (i := 4) sc_key_of_bits.nd rfl (by first | exact .inl rfl | exact .inr rfl)) (rss_cons (rs_set (i := 5) sc_key_of_bits.nd rfl (by first | exact .inl rfl | exact .inr rfl) re_int)
      (rss_cons (rs_for (passes_of rfl) rfl (ri_seq (re_sl (re_var (i := 1) rfl (by first | exact .inl rfl | exact .inr (.inl rfl) | exact .inr (.inr rfl))) (rp_some (re_var (i := 4) rfl (by first | exact .inl rfl | exact .inr (.inl rfl) | exact .inr (.inr rfl)))) (rp_some (re_op ro_add (re_var (i := 4) rfl (by first | exact .inl rfl | exact .inr (.inl rfl) | exact .inr (.inr rfl))) (re_var (i := 2) rfl (by first | exact .inl rfl | exact .inr (.inl rfl) | exact .inr (.inr rfl))))))) (rg_name (i := 6) sc_key_of_bits.nd rfl (by first | exact .inl rfl | exact .inr rfl)) (rss_one (rs_set (i := 5) sc_key_of_bits.nd rfl (by first | exact .inl rfl | exact .inr rfl) (re_op ro_add (re_op ro_mulA re_int (re_var (i := 5) rfl (by first | exact .inl rfl | exact .inr (.inl rfl) | exact .inr (.inr rfl)))) (re_var (i := 6) rfl (by first | exact .inl rfl | exact .inr (.inl rfl) | exact .inr (.inr rfl)))))))
      (rss_one (rs_drop (re_app (re_var (i := 3) rfl (by first | exact .inl rfl | exact .inr (.inl rfl) | exact .inr (.inr rfl))) (re_var (i := 5) rfl (by first | exact .inl rfl | exact .inr (.inl rfl) | exact .inr (.inr rfl)))))))))
      (rss_one (rs_ret (re_call (r_key_of_row T) (takes_of rfl rfl rfl rfl) hr (by decide) rfl (ra_cons (re_var (i := 0) rfl (by first | exact .inl rfl | exact .inr (.inl rfl) | exact .inr (.inr rfl))) (ra_cons (re_var (i := 3) rfl (by first | exact .inl rfl | exact .inr (.inl rfl) | exact .inr (.inr rfl))) ra_nil)))))))))))
theorem sc__law_taken : FnScope [("row" : Str), ("many" : Str), ("cell" : Str), ("found" : Str)] [("row" : Str), ("many" : Str)] (defScope (top 30)) := ⟨by kernel_rfl, by kernel_rfl, by kernel_rfl, by decide +kernel, by kernel_rfl, by decide +kernel, by decide +kernel⟩
theorem r__law_taken (T : Tx P w K mg base) : Ready P w K mg base 2 "_law_taken" (F__law_taken K) := by
  refine ready_mk (N := [("row" : Str), ("many" : Str), ("cell" : Str), ("found" : Str)]) (ps := [("row" : Str), ("many" : Str)]) (n := 2) (m := 4) (k := 1) T.d__law_taken sc__law_taken rfl rfl (fun _ _ _ _ _ _ us hl => match us, hl with | [_, _], _ => rfl) fun cc A outer s H E hcc hr => ?_
  subst hcc
  exact (rss_cons (rs_if (rt_cmp ro_gt (re_ix (re_var (i := 0) rfl (by first | exact .inl rfl | exact .inr (.inl rfl) | exact .inr (.inr rfl))) re_int) re_int rfl) (rss_cons (rs_set (i := 3) sc__law_taken.nd rfl (by first | exact .inl rfl | exact .inr rfl) (re_op ro_mod (re_ct (rcl_int) rfl T.m_int bt_int (ra_cons (re_ix (re_var (i := 0) rfl (by first | exact .inl rfl | exact .inr (.inl rfl) | exact .inr (.inr rfl))) re_int) ra_nil)) (re_var (i := 1) rfl (by first | exact .inl rfl | exact .inr (.inl rfl) | exact .inr (.inr rfl)))))
      (rss_cons (rs_asg (re_op ro_div (re_ix (re_var (i := 0) rfl (by first | exact .inl rfl | exact .inr (.inl rfl) | exact .inr (.inr rfl))) re_int) (re_var (i := 1) rfl (by first | exact .inl rfl | exact .inr (.inl rfl) | exact .inr (.inr rfl)))) (rg_sub (re_var (i := 0) rfl (by first | exact .inl rfl | exact .inr (.inl rfl) | exact .inr (.inr rfl))) re_int))
      (rss_one (rs_ret (re_var (i := 3) rfl (by first | exact .inl rfl | exact .inr (.inl rfl) | exact .inr (.inr rfl))))))) rss_nil)
      (rss_cons (rs_asg (re_op ro_add (re_ix (re_var (i := 0) rfl (by first | exact .inl rfl | exact .inr (.inl rfl) | exact .inr (.inr rfl))) re_int) re_int) (rg_sub (re_var (i := 0) rfl (by first | exact .inl rfl | exact .inr (.inl rfl) | exact .inr (.inr rfl))) re_int))
      (rss_cons (rs_if (rt_cmp ro_gt (re_ix (re_var (i := 0) rfl (by first | exact .inl rfl | exact .inr (.inl rfl) | exact .inr (.inr rfl))) re_int) (re_cb (rcl_len) rfl T.m_len bt_len (ra_cons (re_ix (re_var (i := 0) rfl (by first | exact .inl rfl | exact .inr (.inl rfl) | exact .inr (.inr rfl))) re_int) ra_nil)) rfl) (rss_cons (rs_asg (re_op ro_mod (re_ct (rcl_int) rfl T.m_int bt_int (ra_cons (re_op ro_add (re_op ro_mulA (re_ix (re_var (i := 0) rfl (by first | exact .inl rfl | exact .inr (.inl rfl) | exact .inr (.inr rfl))) re_int) re_int) re_int) ra_nil)) re_int) (rg_sub (re_var (i := 0) rfl (by first | exact .inl rfl | exact .inr (.inl rfl) | exact .inr (.inr rfl))) re_int))
      (rss_one (rs_ret (re_op ro_mod (re_ct (rcl_int) rfl T.m_int bt_int (ra_cons (re_op ro_div (re_ix (re_var (i := 0) rfl (by first | exact .inl rfl | exact .inr (.inl rfl) | exact .inr (.inr rfl))) re_int) re_int) ra_nil)) (re_var (i := 1) rfl (by first | exact .inl rfl | exact .inr (.inl rfl) | exact .inr (.inr rfl))))))) rss_nil)
      (rss_cons (rs_set (i := 2) sc__law_taken.nd rfl (by first | exact .inl rfl | exact .inr rfl) (re_ix (re_ix (re_var (i := 0) rfl (by first | exact .inl rfl | exact .inr (.inl rfl) | exact .inr (.inr rfl))) re_int) (re_op ro_sub (re_ix (re_var (i := 0) rfl (by first | exact .inl rfl | exact .inr (.inl rfl) | exact .inr (.inr rfl))) re_int) re_int)))
      (rss_cons (rs_asg (re_op ro_mod (re_ct (rcl_int) rfl T.m_int bt_int (ra_cons (re_op ro_add (re_op ro_add (re_op ro_mulA (re_ix (re_var (i := 0) rfl (by first | exact .inl rfl | exact .inr (.inl rfl) | exact .inr (.inr rfl))) re_int) re_int) (re_var (i := 2) rfl (by first | exact .inl rfl | exact .inr (.inl rfl) | exact .inr (.inr rfl)))) re_int) ra_nil)) re_int) (rg_sub (re_var (i := 0) rfl (by first | exact .inl rfl | exact .inr (.inl rfl) | exact .inr (.inr rfl))) re_int))
      (rss_cons (rs_if (rt_cmp ro_ge (re_var (i := 2) rfl (by first | exact .inl rfl | exact .inr (.inl rfl) | exact .inr (.inr rfl))) (re_op ro_pow re_int re_int) rfl) (rss_one (rs_asg (re_op ro_div (re_var (i := 2) rfl (by first | exact .inl rfl | exact .inr (.inl rfl) | exact .inr (.inr rfl))) (re_var (i := 1) rfl (by first | exact .inl rfl | exact .inr (.inl rfl) | exact .inr (.inr rfl)))) (rg_sub (re_var (i := 0) rfl (by first | exact .inl rfl | exact .inr (.inl rfl) | exact .inr (.inr rfl))) re_int))) rss_nil)
      (rss_one (rs_ret (re_op ro_mod (re_ct (rcl_int) rfl T.m_int bt_int (ra_cons (re_var (i := 2) rfl (by first | exact .inl rfl | exact .inr (.inl rfl) | exact .inr (.inr rfl))) ra_nil)) (re_var (i := 1) rfl (by first | exact .inl rfl | exact .inr (.inl rfl) | exact .inr (.inr rfl))))))))))))
theorem sc__law_pick : FnScope [("row" : Str), ("some" : Str)] [("row" : Str), ("some" : Str)] (defScope (top 31)) := ⟨by kernel_rfl, by kernel_rfl, by kernel_rfl, by decide +kernel, by kernel_rfl, by decide +kernel, by decide +kernel⟩
theorem r__law_pick (T : Tx P w K mg base) : Ready P w K mg base 3 "_law_pick" (F__law_pick K) := by
  refine ready_mk (N := [("row" : Str), ("some" : Str)]) (ps := [("row" : Str), ("some" : Str)]) (n := 2) (m := 2) (k := 2) T.d__law_pick sc__law_pick rfl rfl (fun _ _ _ _ _ _ us hl => match us, hl with | [_, _], _ => rfl) fun cc A outer s H E hcc hr => ?_
  subst hcc
  exact (rss_one (rs_ret (re_ix (re_var (i := 1) rfl (by first | exact .inl rfl | exact .inr (.inl rfl) | exact .inr (.inr rfl))) (re_call (r__law_taken T) (takes_of rfl rfl rfl rfl) hr (by decide) rfl (ra_cons (re_var (i := 0) rfl (by first | exact .inl rfl | exact .inr (.inl rfl) | exact .inr (.inr rfl))) (ra_cons (re_cb (rcl_len) rfl T.m_len bt_len (ra_cons (re_var (i := 1) rfl (by first | exact .inl rfl | exact .inr (.inl rfl) | exact .inr (.inr rfl))) ra_nil)) ra_nil))))))
theorem sc__law_family : FnScope [("row" : Str)] [("row" : Str)] (defScope (top 32)) := ⟨by kernel_rfl, by kernel_rfl, by kernel_rfl, by decide +kernel, by kernel_rfl, by decide +kernel, by decide +kernel⟩
theorem r__law_family (T : Tx P w K mg base) : Ready P w K mg base 4 "_law_family" (F__law_family K) := by
  refine ready_mk (N := [("row" : Str)]) (ps := [("row" : Str)]) (n := 1) (m := 1) (k := 3) T.d__law_family sc__law_family rfl rfl (fun _ _ _ _ _ _ us hl => match us, hl with | [_], _ => rfl) fun cc A outer s H E hcc hr => ?_
  subst hcc
  exact (rss_one (rs_ret (re_call (r__law_pick T) (takes_of rfl rfl rfl rfl) hr (by decide) rfl (ra_cons (re_var (i := 0) rfl (by first | exact .inl rfl | exact .inr (.inl rfl) | exact .inr (.inr rfl))) (ra_cons (re_lst (ra_cons re_str (ra_cons re_str ra_nil))) ra_nil)))))
theorem sc__law_word : FnScope [("row" : Str), ("signs" : Str), ("many" : Str), ("turn" : Str)] [("row" : Str)] (defScope (top 33)) := ⟨by kernel_rfl, by kernel_rfl, by kernel_rfl, by decide +kernel, by kernel_rfl, by decide +kernel, by decide +kernel⟩
theorem r__law_word (T : Tx P w K mg base) : Ready P w K mg base 4 "_law_word" (F__law_word K) := by
  refine ready_mk (N := [("row" : Str), ("signs" : Str), ("many" : Str), ("turn" : Str)]) (ps := [("row" : Str)]) (n := 1) (m := 4) (k := 3) T.d__law_word sc__law_word rfl rfl (fun _ _ _ _ _ _ us hl => match us, hl with | [_], _ => rfl) fun cc A outer s H E hcc hr => ?_
  subst hcc
  exact (rss_cons (rs_set (i := 1) sc__law_word.nd rfl (by first | exact .inl rfl | exact .inr rfl) (re_call (r__law_pick T) (takes_of rfl rfl rfl rfl) hr (by decide) rfl (ra_cons (re_var (i := 0) rfl (by first | exact .inl rfl | exact .inr (.inl rfl) | exact .inr (.inr rfl))) (ra_cons (re_lst (ra_cons re_str (ra_cons re_str (ra_cons re_str (ra_cons re_str (ra_cons re_str (ra_cons re_str ra_nil))))))) ra_nil))))
      (rss_cons (rs_set (i := 2) sc__law_word.nd rfl (by first | exact .inl rfl | exact .inr rfl) (re_op ro_add re_int (re_call (r__law_taken T) (takes_of rfl rfl rfl rfl) hr (by decide) rfl (ra_cons (re_var (i := 0) rfl (by first | exact .inl rfl | exact .inr (.inl rfl) | exact .inr (.inr rfl))) (ra_cons (re_call (r__law_pick T) (takes_of rfl rfl rfl rfl) hr (by decide) rfl (ra_cons (re_var (i := 0) rfl (by first | exact .inl rfl | exact .inr (.inl rfl) | exact .inr (.inr rfl))) (ra_cons (re_lst (ra_cons re_int (ra_cons re_int (ra_cons re_int (ra_cons re_int ra_nil))))) ra_nil))) ra_nil)))))
      (rss_one (rs_ret (re_join re_str (re_lc (tg := .nm 3) (own := [(("turn" : Str), 3)]) rfl sc__law_word.nd (ri_rng1 rfl T.m_range (ra_cons (re_var (i := 2) rfl (by first | exact .inl rfl | exact .inr (.inl rfl) | exact .inr (.inr rfl))) ra_nil)) (by kernel_rfl) (by kernel_rfl) (fun _ _ _ _ _ => pg_name (i := 3) sc__law_word.nd rfl (.inl rfl)) (fun _ _ _ _ _ => (re_call (r__law_pick T) LamX.takes0 hr (by decide) rfl (ra_cons (re_var (i := 0) rfl (by first | exact .inl rfl | exact .inr (.inl rfl) | exact .inr (.inr rfl))) (ra_cons (re_var (i := 1) rfl (by first | exact .inl rfl | exact .inr (.inl rfl) | exact .inr (.inr rfl))) ra_nil))))))))))
theorem sc__law_key : FnScope [("row" : Str), ("family" : Str), ("wide" : Str)] [("row" : Str), ("family" : Str)] (defScope (top 34)) := ⟨by kernel_rfl, by kernel_rfl, by kernel_rfl, by decide +kernel, by kernel_rfl, by decide +kernel, by decide +kernel⟩
theorem r__law_key (T : Tx P w K mg base) : Ready P w K mg base 5 "_law_key" (F__law_key K) := by
  refine ready_mk (N := [("row" : Str), ("family" : Str), ("wide" : Str)]) (ps := [("row" : Str), ("family" : Str)]) (n := 2) (m := 3) (k := 4) T.d__law_key sc__law_key rfl rfl (fun _ _ _ _ _ _ us hl => match us, hl with | [_, _], _ => rfl) fun cc A outer s H E hcc hr => ?_
  subst hcc
  exact (rss_cons (rs_if (rt_cmp (ro_eq hr) (re_var (i := 1) rfl (by first | exact .inl rfl | exact .inr (.inl rfl) | exact .inr (.inr rfl))) re_str rfl) (rss_one (rs_ret (re_call (r__law_word T) (takes_of rfl rfl rfl rfl) hr (by decide) rfl (ra_cons (re_var (i := 0) rfl (by first | exact .inl rfl | exact .inr (.inl rfl) | exact .inr (.inr rfl))) ra_nil)))) rss_nil)
      (rss_cons (rs_set (i := 2) sc__law_key.nd rfl (by first | exact .inl rfl | exact .inr rfl) (re_call (r__law_pick T) (takes_of rfl rfl rfl rfl) hr (by decide) rfl (ra_cons (re_var (i := 0) rfl (by first | exact .inl rfl | exact .inr (.inl rfl) | exact .inr (.inr rfl))) (ra_cons (re_lst (ra_cons re_int (ra_cons re_int (ra_cons re_int (ra_cons re_int ra_nil))))) ra_nil))))
      (rss_one (rs_ret (re_op ro_mod (re_op ro_mulA (re_call (r__law_taken T) (takes_of rfl rfl rfl rfl) hr (by decide) rfl (ra_cons (re_var (i := 0) rfl (by first | exact .inl rfl | exact .inr (.inl rfl) | exact .inr (.inr rfl))) (ra_cons (re_var (i := 2) rfl (by first | exact .inl rfl | exact .inr (.inl rfl) | exact .inr (.inr rfl))) ra_nil))) (re_call (r__law_pick T) (takes_of rfl rfl rfl rfl) hr (by decide) rfl (ra_cons (re_var (i := 0) rfl (by first | exact .inl rfl | exact .inr (.inl rfl) | exact .inr (.inr rfl))) (ra_cons (re_lst (ra_cons re_int (ra_cons re_int (ra_cons re_int (ra_cons re_int ra_nil))))) ra_nil)))) re_int)))))
theorem sc__law_letters : FnScope [("family" : Str), ("key" : Str), ("size" : Str), ("sign" : Str)] [("family" : Str), ("key" : Str)] (defScope (top 35)) := ⟨by kernel_rfl, by kernel_rfl, by kernel_rfl, by decide +kernel, by kernel_rfl, by decide +kernel, by decide +kernel⟩
theorem r__law_letters (T : Tx P w K mg base) : Ready P w K mg base 2 "_law_letters" (F__law_letters K) := by
  refine ready_mk (N := [("family" : Str), ("key" : Str), ("size" : Str), ("sign" : Str)]) (ps := [("family" : Str), ("key" : Str)]) (n := 2) (m := 4) (k := 1) T.d__law_letters sc__law_letters rfl rfl (fun _ _ _ _ _ _ us hl => match us, hl with | [_, _], _ => rfl) fun cc A outer s H E hcc hr => ?_
  subst hcc
  exact (rss_cons (rs_if (rt_cmp (ro_eq hr) (re_var (i := 0) rfl (by first | exact .inl rfl | exact .inr (.inl rfl) | exact .inr (.inr rfl))) re_str rfl) (rss_one (rs_ret (re_tupOf rfl T.m_tuple (re_lc (tg := .nm 2) (own := [(("size" : Str), 2)]) rfl sc__law_letters.nd (ri_seq (re_tup (ra_cons re_int (ra_cons re_int (ra_cons re_int (ra_cons re_int ra_nil)))))) (by kernel_rfl) (by kernel_rfl) (fun _ _ _ _ _ => pg_name (i := 2) sc__law_letters.nd rfl (.inl rfl)) (fun _ _ _ _ _ => (re_op ro_mod (re_op ro_div (re_var (i := 1) rfl (by first | exact .inl rfl | exact .inr (.inl rfl) | exact .inr (.inr rfl))) (re_var (i := 2) rfl (by first | exact .inl rfl | exact .inr (.inl rfl) | exact .inr (.inr rfl)))) re_int)))))) rss_nil)
      (rss_one (rs_ret (re_op ro_add (re_tupOf rfl T.m_tuple (re_lc (tg := .nm 3) (own := [(("sign" : Str), 3)]) rfl sc__law_letters.nd (ri_seq (re_var (i := 1) rfl (by first | exact .inl rfl | exact .inr (.inl rfl) | exact .inr (.inr rfl)))) (by kernel_rfl) (by kernel_rfl) (fun _ _ _ _ _ => pg_name (i := 3) sc__law_letters.nd rfl (.inl rfl)) (fun _ _ _ _ _ => (re_op ro_add (re_idx re_str (re_var (i := 3) rfl (by first | exact .inl rfl | exact .inr (.inl rfl) | exact .inr (.inr rfl)))) re_int)))) (re_tup (ra_cons re_int ra_nil))))))
theorem sc__law_bits : FnScope [("family" : Str), ("key" : Str), ("found" : Str), ("letter" : Str), ("size" : Str)] [("family" : Str), ("key" : Str)] (defScope (top 36)) := ⟨by kernel_rfl, by kernel_rfl, by kernel_rfl, by decide +kernel, by kernel_rfl, by decide +kernel, by decide +kernel⟩
theorem r__law_bits (T : Tx P w K mg base) : Ready P w K mg base 3 "_law_bits" (F__law_bits K) := by
  refine ready_mk (N := [("family" : Str), ("key" : Str), ("found" : Str), ("letter" : Str), ("size" : Str)]) (ps := [("family" : Str), ("key" : Str)]) (n := 2) (m := 5) (k := 2) T.d__law_bits sc__law_bits rfl rfl (fun _ _ _ _ _ _ us hl => match us, hl with | [_, _], _ => rfl) fun cc A outer s H E hcc hr => ?_
  subst hcc
  exact (rss_cons (rs_set (i := 2) sc__law_bits.nd rfl (by first | exact .inl rfl | exact .inr rfl) (re_lst ra_nil))
      (rss_cons (rs_for (passes_of rfl) rfl (ri_seq (re_call (r__law_letters T) (takes_of rfl rfl rfl rfl) hr (by decide) rfl (ra_cons (re_var (i := 0) rfl (by first | exact .inl rfl | exact .inr (.inl rfl) | exact .inr (.inr rfl))) (ra_cons (re_var (i := 1) rfl (by first | exact .inl rfl | exact .inr (.inl rfl) | exact .inr (.inr rfl))) ra_nil)))) (rg_name (i := 3) sc__law_bits.nd rfl (by first | exact .inl rfl | exact .inr rfl)) (rss_one (rs_set (i := 2) sc__law_bits.nd rfl (by first | exact .inl rfl | exact .inr rfl) (re_op ro_add (re_var (i := 2) rfl (by first | exact .inl rfl | exact .inr (.inl rfl) | exact .inr (.inr rfl))) (re_lc (tg := .nm 4) (own := [(("size" : Str), 4)]) rfl sc__law_bits.nd (ri_seq (re_if (rt_cmp (ro_eq hr) (re_var (i := 0) rfl (by first | exact .inl rfl | exact .inr (.inl rfl) | exact .inr (.inr rfl))) re_str rfl) (re_tup (ra_cons re_int (ra_cons re_int (ra_cons re_int (ra_cons re_int ra_nil))))) (re_tup (ra_cons re_int (ra_cons re_int (ra_cons re_int (ra_cons re_int (ra_cons re_int ra_nil)))))))) (by kernel_rfl) (by kernel_rfl) (fun _ _ _ _ _ => pg_name (i := 4) sc__law_bits.nd rfl (.inl rfl)) (fun _ _ _ _ _ => (re_op ro_mod (re_op ro_div (re_var (i := 3) rfl (by first | exact .inl rfl | exact .inr (.inl rfl) | exact .inr (.inr rfl))) (re_var (i := 4) rfl (by first | exact .inl rfl | exact .inr (.inl rfl) | exact .inr (.inr rfl)))) re_int)))))))
      (rss_one (rs_ret (re_tupOf rfl T.m_tuple (re_var (i := 2) rfl (by first | exact .inl rfl | exact .inr (.inl rfl) | exact .inr (.inr rfl))))))))
theorem sc__law_alike : FnScope [("found" : Str), ("due" : Str), ("k" : Str), ("key" : Str)] [("found" : Str), ("due" : Str)] (defScope (top 37)) := ⟨by kernel_rfl, by kernel_rfl, by kernel_rfl, by decide +kernel, by kernel_rfl, by decide +kernel, by decide +kernel⟩
theorem r__law_alike (T : Tx P w K mg base) : ∀ n : Nat, Ready P w K mg base (n + 2) "_law_alike" (F__law_alike K n)
  | 0 => ready_bad (ps := [("found" : Str), ("due" : Str)]) T.d__law_alike (fun _ _ _ _ _ _ us hl => match us, hl with | [_, _], _ => rfl)
  | n + 1 => by
    have ih := r__law_alike T n
    refine ready_mk (N := [("found" : Str), ("due" : Str), ("k" : Str), ("key" : Str)]) (ps := [("found" : Str), ("due" : Str)]) (n := 2) (m := 4) (k := n + 2) T.d__law_alike sc__law_alike rfl rfl (fun _ _ _ _ _ _ us hl => match us, hl with | [_, _], _ => rfl) fun cc A outer s H E hcc hr => ?_
    subst hcc
    exact (rss_cons (rs_if (rt_val (re_isi2 rfl T.m_isinstance (re_var (i := 1) rfl (by first | exact .inl rfl | exact .inr (.inl rfl) | exact .inr (.inr rfl))) rfl T.m_tuple bt_tuple rfl T.m_list bt_list)) (rss_cons (rs_if (rt_w (rw_or (rt_not (rt_val (re_isi2 rfl T.m_isinstance (re_var (i := 0) rfl (by first | exact .inl rfl | exact .inr (.inl rfl) | exact .inr (.inr rfl))) rfl T.m_tuple bt_tuple rfl T.m_list bt_list))) (rw_or1 (rt_cmp (ro_ne hr) (re_isi rfl T.m_isinstance (re_var (i := 0) rfl (by first | exact .inl rfl | exact .inr (.inl rfl) | exact .inr (.inr rfl))) rfl T.m_list bt_list) (re_isi rfl T.m_isinstance (re_var (i := 1) rfl (by first | exact .inl rfl | exact .inr (.inl rfl) | exact .inr (.inr rfl))) rfl T.m_list bt_list) rfl)))) (rss_one (rs_ret re_bl)) rss_nil)
      (rss_cons (rs_if (rt_cmp (ro_ne hr) (re_cb (rcl_len) rfl T.m_len bt_len (ra_cons (re_var (i := 0) rfl (by first | exact .inl rfl | exact .inr (.inl rfl) | exact .inr (.inr rfl))) ra_nil)) (re_cb (rcl_len) rfl T.m_len bt_len (ra_cons (re_var (i := 1) rfl (by first | exact .inl rfl | exact .inr (.inl rfl) | exact .inr (.inr rfl))) ra_nil)) rfl) (rss_one (rs_ret re_bl)) rss_nil)
      (rss_one (rs_ret (re_cmp (ro_eq hr) (re_lcIf (tg := .nm 2) (own := [(("k" : Str), 2)]) rfl sc__law_alike.nd (ri_rng1 rfl T.m_range (ra_cons (re_cb (rcl_len) rfl T.m_len bt_len (ra_cons (re_var (i := 1) rfl (by first | exact .inl rfl | exact .inr (.inl rfl) | exact .inr (.inr rfl))) ra_nil)) ra_nil)) (by kernel_rfl) (by kernel_rfl) (fun _ _ _ _ _ => pg_name (i := 2) sc__law_alike.nd rfl (.inl rfl)) (fun _ _ _ _ _ => (rt_not (rt_val (re_call ih LamX.takes0 hr (by omega) rfl (ra_cons (re_ix (re_var (i := 0) rfl (by first | exact .inl rfl | exact .inr (.inl rfl) | exact .inr (.inr rfl))) (re_var (i := 2) rfl (by first | exact .inl rfl | exact .inr (.inl rfl) | exact .inr (.inr rfl)))) (ra_cons (re_ix (re_var (i := 1) rfl (by first | exact .inl rfl | exact .inr (.inl rfl) | exact .inr (.inr rfl))) (re_var (i := 2) rfl (by first | exact .inl rfl | exact .inr (.inl rfl) | exact .inr (.inr rfl)))) ra_nil)))))) (fun _ _ _ _ _ => (re_var (i := 2) rfl (by first | exact .inl rfl | exact .inr (.inl rfl) | exact .inr (.inr rfl))))) (re_lst ra_nil) rfl))))) rss_nil)
      (rss_cons (rs_if (rt_val (re_isi rfl T.m_isinstance (re_var (i := 1) rfl (by first | exact .inl rfl | exact .inr (.inl rfl) | exact .inr (.inr rfl))) rfl T.m_dict bt_dict)) rss_dead rss_nil)
      (rss_cons (rs_if (rt_w (rw_or (rt_cmp ro_is (re_var (i := 1) rfl (by first | exact .inl rfl | exact .inr (.inl rfl) | exact .inr (.inr rfl))) re_non rfl) (rw_or1 (rt_val (re_isi rfl T.m_isinstance (re_var (i := 1) rfl (by first | exact .inl rfl | exact .inr (.inl rfl) | exact .inr (.inr rfl))) rfl T.m_str bt_str))))) (rss_one (rs_ret (re_and (re_cmp (ro_eq hr) (re_var (i := 0) rfl (by first | exact .inl rfl | exact .inr (.inl rfl) | exact .inr (.inr rfl))) (re_var (i := 1) rfl (by first | exact .inl rfl | exact .inr (.inl rfl) | exact .inr (.inr rfl))) rfl) (re_one (re_cmp (ro_eq hr) (re_isi rfl T.m_isinstance (re_var (i := 0) rfl (by first | exact .inl rfl | exact .inr (.inl rfl) | exact .inr (.inr rfl))) rfl T.m_str bt_str) (re_isi rfl T.m_isinstance (re_var (i := 1) rfl (by first | exact .inl rfl | exact .inr (.inl rfl) | exact .inr (.inr rfl))) rfl T.m_str bt_str) rfl))))) rss_nil)
      (rss_one (rs_ret (re_and (re_isi rfl T.m_isinstance (re_var (i := 0) rfl (by first | exact .inl rfl | exact .inr (.inl rfl) | exact .inr (.inr rfl))) rfl T.m_int bt_int) (re_and (re_cmp (ro_eq hr) (re_isi rfl T.m_isinstance (re_var (i := 0) rfl (by first | exact .inl rfl | exact .inr (.inl rfl) | exact .inr (.inr rfl))) rfl T.m_bool bt_bool) (re_isi rfl T.m_isinstance (re_var (i := 1) rfl (by first | exact .inl rfl | exact .inr (.inl rfl) | exact .inr (.inr rfl))) rfl T.m_bool bt_bool) rfl) (re_one (re_cmp (ro_eq hr) (re_var (i := 0) rfl (by first | exact .inl rfl | exact .inr (.inl rfl) | exact .inr (.inr rfl))) (re_var (i := 1) rfl (by first | exact .inl rfl | exact .inr (.inl rfl) | exact .inr (.inr rfl))) rfl)))))))))
theorem sc__law_refused : FnScope [("row" : Str), ("family" : Str), ("one" : Str), ("first" : Str), ("bad" : Str), ("wrong" : Str), ("heard" : Str), ("some" : Str), ("bent" : Str)] [("row" : Str), ("family" : Str), ("one" : Str), ("first" : Str)] (defScope (top 39)) := ⟨by kernel_rfl, by kernel_rfl, by kernel_rfl, by decide +kernel, by kernel_rfl, by decide +kernel, by decide +kernel⟩
theorem r__law_refused (T : Tx P w K mg base) : Ready P w K mg base 9 "_law_refused" (F__law_refused K) := by
  refine ready_mk (N := [("row" : Str), ("family" : Str), ("one" : Str), ("first" : Str), ("bad" : Str), ("wrong" : Str), ("heard" : Str), ("some" : Str), ("bent" : Str)]) (ps := [("row" : Str), ("family" : Str), ("one" : Str), ("first" : Str)]) (n := 4) (m := 9) (k := 8) T.d__law_refused sc__law_refused rfl rfl (fun _ _ _ _ _ _ us hl => match us, hl with | [_, _, _, _], _ => rfl) fun cc A outer s H E hcc hr => ?_
  subst hcc
  exact (rss_cons (rs_set (i := 4) sc__law_refused.nd rfl (by first | exact .inl rfl | exact .inr rfl) (re_call (r__law_pick T) (takes_of rfl rfl rfl rfl) hr (by decide) rfl (ra_cons (re_var (i := 0) rfl (by first | exact .inl rfl | exact .inr (.inl rfl) | exact .inr (.inr rfl))) (ra_cons (re_lst (ra_cons re_non (ra_cons re_str (ra_cons re_int (ra_cons re_str ra_nil))))) ra_nil))))
      (rss_cons (rs_set (i := 5) sc__law_refused.nd rfl (by first | exact .inl rfl | exact .inr rfl) (re_call (r__law_pick T) (takes_of rfl rfl rfl rfl) hr (by decide) rfl (ra_cons (re_var (i := 0) rfl (by first | exact .inl rfl | exact .inr (.inl rfl) | exact .inr (.inr rfl))) (ra_cons (re_lst (ra_cons re_non (ra_cons (re_neg re_int) (ra_cons re_int (ra_cons re_bl (ra_cons re_str (ra_cons re_str (ra_cons re_str (ra_cons (re_tup ra_nil) (ra_cons (re_tup (ra_cons re_int ra_nil)) ra_nil)))))))))) ra_nil))))
      (rss_cons (rs_set (i := 6) sc__law_refused.nd rfl (by first | exact .inl rfl | exact .inr rfl) (re_lst (ra_cons (re_lamH (k := 6) (n := 3) (T := tb K 3) (q := "_law_refused.<locals>.<lambda>") (CB := CB K) (CR := CR K) T.heard rfl (T.tab 3) rfl (by kernel_rfl) hr (by decide) (LamX.lamS_by (by kernel_rfl)) rfl (fun _ _ _ _ _ => rfl) (fun _ _ _ _ _ _ _ hr => (re_call (r_letters_of T) (takes_of rfl rfl rfl rfl) hr (by decide) rfl (ra_cons (re_var (i := 4) rfl (by first | exact .inl rfl | exact .inr (.inl rfl) | exact .inr (.inr rfl))) (ra_cons (re_var (i := 5) rfl (by first | exact .inl rfl | exact .inr (.inl rfl) | exact .inr (.inr rfl))) ra_nil))))) (ra_cons (re_lamH (k := 6) (n := 3) (T := tb K 3) (q := "_law_refused.<locals>.<lambda>") (CB := CB K) (CR := CR K) T.heard rfl (T.tab 3) rfl (by kernel_rfl) hr (by decide) (LamX.lamS_by (by kernel_rfl)) rfl (fun _ _ _ _ _ => rfl) (fun _ _ _ _ _ _ _ hr => (re_call (r_bits_of T) (takes_of rfl rfl rfl rfl) hr (by decide) rfl (ra_cons (re_var (i := 1) rfl (by first | exact .inl rfl | exact .inr (.inl rfl) | exact .inr (.inr rfl))) (ra_cons (re_var (i := 5) rfl (by first | exact .inl rfl | exact .inr (.inl rfl) | exact .inr (.inr rfl))) ra_nil))))) (ra_cons (re_lamH (k := 6) (n := 3) (T := tb K 3) (q := "_law_refused.<locals>.<lambda>") (CB := CB K) (CR := CR K) T.heard rfl (T.tab 3) rfl (by kernel_rfl) hr (by decide) (LamX.lamS_by (by kernel_rfl)) rfl (fun _ _ _ _ _ => rfl) (fun _ _ _ _ _ _ _ hr => (re_call (r_first_unlike T) (takes_of rfl rfl rfl rfl) hr (by decide) rfl (ra_cons (re_var (i := 1) rfl (by first | exact .inl rfl | exact .inr (.inl rfl) | exact .inr (.inr rfl))) (ra_cons (re_var (i := 5) rfl (by first | exact .inl rfl | exact .inr (.inl rfl) | exact .inr (.inr rfl))) (ra_cons (re_var (i := 5) rfl (by first | exact .inl rfl | exact .inr (.inl rfl) | exact .inr (.inr rfl))) ra_nil)))))) (ra_cons (re_lamH (k := 6) (n := 3) (T := tb K 3) (q := "_law_refused.<locals>.<lambda>") (CB := CB K) (CR := CR K) T.heard rfl (T.tab 3) rfl (by kernel_rfl) hr (by decide) (LamX.lamS_by (by kernel_rfl)) rfl (fun _ _ _ _ _ => rfl) (fun _ _ _ _ _ _ _ hr => (re_call (r_first_unlike T) (takes_of rfl rfl rfl rfl) hr (by decide) rfl (ra_cons (re_var (i := 1) rfl (by first | exact .inl rfl | exact .inr (.inl rfl) | exact .inr (.inr rfl))) (ra_cons (re_var (i := 2) rfl (by first | exact .inl rfl | exact .inr (.inl rfl) | exact .inr (.inr rfl))) (ra_cons (re_var (i := 5) rfl (by first | exact .inl rfl | exact .inr (.inl rfl) | exact .inr (.inr rfl))) ra_nil)))))) ra_nil))))))
      (rss_cons (rs_if (rt_not (rt_val (re_call (r__law_alike T 4) (takes_of rfl rfl rfl rfl) hr (by decide) rfl (ra_cons (re_var (i := 6) rfl (by first | exact .inl rfl | exact .inr (.inl rfl) | exact .inr (.inr rfl))) (ra_cons (re_lst (ra_cons (re_tup (ra_cons re_str (ra_cons re_str (ra_cons re_bl ra_nil)))) (ra_cons (re_tup (ra_cons re_str (ra_cons re_str (ra_cons re_bl ra_nil)))) (ra_cons (re_tup (ra_cons re_str (ra_cons re_str (ra_cons re_bl ra_nil)))) (ra_cons (re_tup (ra_cons re_str (ra_cons re_str (ra_cons re_bl ra_nil)))) ra_nil))))) ra_nil))))) (rss_one (rs_ret re_bl)) rss_nil)
      (rss_cons (rs_set (i := 7) sc__law_refused.nd rfl (by first | exact .inl rfl | exact .inr rfl) (re_lst (ra_cons re_non (ra_cons (re_tup ra_nil) (ra_cons (re_sl (re_var (i := 3) rfl (by first | exact .inl rfl | exact .inr (.inl rfl) | exact .inr (.inr rfl))) rp_none (rp_some (re_neg re_int))) (ra_cons (re_op ro_add (re_var (i := 3) rfl (by first | exact .inl rfl | exact .inr (.inl rfl) | exact .inr (.inr rfl))) (re_var (i := 3) rfl (by first | exact .inl rfl | exact .inr (.inl rfl) | exact .inr (.inr rfl)))) (ra_cons (re_ct rcl_list rfl T.m_list bt_list (ra_cons (re_var (i := 3) rfl (by first | exact .inl rfl | exact .inr (.inl rfl) | exact .inr (.inr rfl))) ra_nil)) (ra_cons (re_op ro_add (re_sl (re_var (i := 3) rfl (by first | exact .inl rfl | exact .inr (.inl rfl) | exact .inr (.inr rfl))) rp_none (rp_some (re_neg re_int))) (re_tup (ra_cons re_int ra_nil))) (ra_cons (re_op ro_add (re_sl (re_var (i := 3) rfl (by first | exact .inl rfl | exact .inr (.inl rfl) | exact .inr (.inr rfl))) rp_none (rp_some (re_neg re_int))) (re_tup (ra_cons re_bl ra_nil))) ra_nil)))))))))
      (rss_cons (rs_set (i := 7) sc__law_refused.nd rfl (by first | exact .inl rfl | exact .inr rfl) (re_op ro_add (re_var (i := 7) rfl (by first | exact .inl rfl | exact .inr (.inl rfl) | exact .inr (.inr rfl))) (re_if (rt_cmp (ro_eq hr) (re_var (i := 1) rfl (by first | exact .inl rfl | exact .inr (.inl rfl) | exact .inr (.inr rfl))) re_str rfl) (re_lst (ra_cons (re_op ro_mulA (re_tup (ra_cons re_int ra_nil)) re_int) (ra_cons (re_op ro_add (re_op ro_mulA (re_tup (ra_cons re_int ra_nil)) re_int) (re_op ro_mulA (re_tup (ra_cons re_int ra_nil)) re_int)) (ra_cons (re_sl (re_var (i := 3) rfl (by first | exact .inl rfl | exact .inr (.inl rfl) | exact .inr (.inr rfl))) rp_none (rp_some (re_neg re_int))) (ra_cons (re_op ro_mulA (re_tup (ra_cons re_int ra_nil)) re_int) (ra_cons (re_op ro_add (re_op ro_mulA (re_tup (ra_cons re_int (ra_cons re_int (ra_cons re_int (ra_cons re_int (ra_cons re_int ra_nil)))))) re_int) (re_op ro_mulA (re_tup (ra_cons re_int ra_nil)) re_int)) ra_nil)))))) (re_lst (ra_cons (re_sl (re_var (i := 3) rfl (by first | exact .inl rfl | exact .inr (.inl rfl) | exact .inr (.inr rfl))) rp_none (rp_some re_int)) (ra_cons (re_op ro_add (re_var (i := 3) rfl (by first | exact .inl rfl | exact .inr (.inl rfl) | exact .inr (.inr rfl))) (re_tup (ra_cons re_int (ra_cons re_int (ra_cons re_int (ra_cons re_int ra_nil)))))) ra_nil))))))
      (rss_cons (rs_set (i := 8) sc__law_refused.nd rfl (by first | exact .inl rfl | exact .inr rfl) (re_call (r__law_pick T) (takes_of rfl rfl rfl rfl) hr (by decide) rfl (ra_cons (re_var (i := 0) rfl (by first | exact .inl rfl | exact .inr (.inl rfl) | exact .inr (.inr rfl))) (ra_cons (re_var (i := 7) rfl (by first | exact .inl rfl | exact .inr (.inl rfl) | exact .inr (.inr rfl))) ra_nil))))
      (rss_one (rs_ret (re_call (r__law_alike T 4) (takes_of rfl rfl rfl rfl) hr (by decide) rfl (ra_cons (re_lamH (k := 6) (n := 3) (T := tb K 3) (q := "_law_refused.<locals>.<lambda>") (CB := CB K) (CR := CR K) T.heard rfl (T.tab 3) rfl (by kernel_rfl) hr (by decide) (LamX.lamS_by (by kernel_rfl)) rfl (fun _ _ _ _ _ => rfl) (fun _ _ _ _ _ _ _ hr => (re_call (r_key_of_bits T) (takes_of rfl rfl rfl rfl) hr (by decide) rfl (ra_cons (re_var (i := 1) rfl (by first | exact .inl rfl | exact .inr (.inl rfl) | exact .inr (.inr rfl))) (ra_cons (re_var (i := 8) rfl (by first | exact .inl rfl | exact .inr (.inl rfl) | exact .inr (.inr rfl))) ra_nil))))) (ra_cons (re_tup (ra_cons re_str (ra_cons re_str (ra_cons re_bl ra_nil)))) ra_nil))))))))))))
theorem sc_law : FnScope [("script" : Str), ("row" : Str), ("family" : Str), ("places" : Str), ("one" : Str), ("other" : Str), ("first" : Str), ("second" : Str), ("k" : Str)] [("script" : Str)] (defScope (top 40)) := ⟨by kernel_rfl, by kernel_rfl, by kernel_rfl, by decide +kernel, by kernel_rfl, by decide +kernel, by decide +kernel⟩
theorem ok_law (T : Tx P w K mg base) {fd : FuncData} (F : FunD K "law" "law" (defArgs (top 40)) (defBody (top 40)) (defScope (top 40)) [] [] (He.ga K "law") fd) : FnOk P w K mg base (L2.CX P w) 10 (He.ga K "law") fd ["script"] (spR K (F_law K)) := by
  refine fn_mkD (N := [("script" : Str), ("row" : Str), ("family" : Str), ("places" : Str), ("one" : Str), ("other" : Str), ("first" : Str), ("second" : Str), ("k" : Str)]) (n := 1) (m := 9) (k := 9) F sc_law rfl rfl fun cc A outer s H E ⟨oc, od, osl, lk, ecc⟩ hr => ?_
  obtain rfl : He.codeOf K ("law", none) = cc := He.codeOf_eq (p := ("law", none)) lk ecc
  exact (rss_cons (rs_set (i := 1) sc_law.nd rfl (by first | exact .inl rfl | exact .inr rfl) (re_new (ra_cons (re_var (i := 0) rfl (by first | exact .inl rfl | exact .inr (.inl rfl) | exact .inr (.inr rfl))) (ra_cons re_int (ra_cons re_int (ra_cons re_int ra_nil))))))
      (rss_cons (rs_set (i := 2) sc_law.nd rfl (by first | exact .inl rfl | exact .inr rfl) (re_call (r__law_family T) (takes_of rfl rfl rfl rfl) hr (by decide) rfl (ra_cons (re_var (i := 1) rfl (by first | exact .inl rfl | exact .inr (.inl rfl) | exact .inr (.inr rfl))) ra_nil)))
      (rss_cons (rs_par (i := 4) (j := 5) rfl sc_law.nd rfl rfl (by decide) rfl rfl (ra_cons (re_call (r__law_key T) (takes_of rfl rfl rfl rfl) hr (by decide) rfl (ra_cons (re_var (i := 1) rfl (by first | exact .inl rfl | exact .inr (.inl rfl) | exact .inr (.inr rfl))) (ra_cons (re_var (i := 2) rfl (by first | exact .inl rfl | exact .inr (.inl rfl) | exact .inr (.inr rfl))) ra_nil))) (ra_cons (re_call (r__law_key T) (takes_of rfl rfl rfl rfl) hr (by decide) rfl (ra_cons (re_var (i := 1) rfl (by first | exact .inl rfl | exact .inr (.inl rfl) | exact .inr (.inr rfl))) (ra_cons (re_var (i := 2) rfl (by first | exact .inl rfl | exact .inr (.inl rfl) | exact .inr (.inr rfl))) ra_nil))) ra_nil)) (by kernel_rfl))
      (rss_cons (rs_asg (re_tup (ra_cons (re_call (r__law_bits T) (takes_of rfl rfl rfl rfl) hr (by decide) rfl (ra_cons (re_var (i := 2) rfl (by first | exact .inl rfl | exact .inr (.inl rfl) | exact .inr (.inr rfl))) (ra_cons (re_var (i := 4) rfl (by first | exact .inl rfl | exact .inr (.inl rfl) | exact .inr (.inr rfl))) ra_nil))) (ra_cons (re_call (r__law_bits T) (takes_of rfl rfl rfl rfl) hr (by decide) rfl (ra_cons (re_var (i := 2) rfl (by first | exact .inl rfl | exact .inr (.inl rfl) | exact .inr (.inr rfl))) (ra_cons (re_var (i := 5) rfl (by first | exact .inl rfl | exact .inr (.inl rfl) | exact .inr (.inr rfl))) ra_nil))) ra_nil))) (rg_tup (is := [6, 7]) rfl (pgs_cons (pg_name (i := 6) sc_law.nd rfl (by first | exact .inl rfl | exact .inr rfl)) (pgs_cons (pg_name (i := 7) sc_law.nd rfl (by first | exact .inl rfl | exact .inr rfl)) pgs_nil))))
      (rss_cons (rs_if (rt_not (rt_val (re_call (r__law_alike T 4) (takes_of rfl rfl rfl rfl) hr (by decide) rfl (ra_cons (re_lst (ra_cons (re_call (r_letters_of T) (takes_of rfl rfl rfl rfl) hr (by decide) rfl (ra_cons (re_var (i := 2) rfl (by first | exact .inl rfl | exact .inr (.inl rfl) | exact .inr (.inr rfl))) (ra_cons (re_var (i := 4) rfl (by first | exact .inl rfl | exact .inr (.inl rfl) | exact .inr (.inr rfl))) ra_nil))) (ra_cons (re_call (r_bits_of T) (takes_of rfl rfl rfl rfl) hr (by decide) rfl (ra_cons (re_var (i := 2) rfl (by first | exact .inl rfl | exact .inr (.inl rfl) | exact .inr (.inr rfl))) (ra_cons (re_var (i := 4) rfl (by first | exact .inl rfl | exact .inr (.inl rfl) | exact .inr (.inr rfl))) ra_nil))) ra_nil))) (ra_cons (re_lst (ra_cons (re_call (r__law_letters T) (takes_of rfl rfl rfl rfl) hr (by decide) rfl (ra_cons (re_var (i := 2) rfl (by first | exact .inl rfl | exact .inr (.inl rfl) | exact .inr (.inr rfl))) (ra_cons (re_var (i := 4) rfl (by first | exact .inl rfl | exact .inr (.inl rfl) | exact .inr (.inr rfl))) ra_nil))) (ra_cons (re_var (i := 6) rfl (by first | exact .inl rfl | exact .inr (.inl rfl) | exact .inr (.inr rfl))) ra_nil))) ra_nil))))) (rss_one (rs_ret re_bl)) rss_nil)
      (rss_cons (rs_if (rt_w (rw_or (rt_not (rt_val (re_call (r__law_alike T 4) (takes_of rfl rfl rfl rfl) hr (by decide) rfl (ra_cons (re_call (r_key_of_bits T) (takes_of rfl rfl rfl rfl) hr (by decide) rfl (ra_cons (re_var (i := 2) rfl (by first | exact .inl rfl | exact .inr (.inl rfl) | exact .inr (.inr rfl))) (ra_cons (re_var (i := 6) rfl (by first | exact .inl rfl | exact .inr (.inl rfl) | exact .inr (.inr rfl))) ra_nil))) (ra_cons (re_var (i := 4) rfl (by first | exact .inl rfl | exact .inr (.inl rfl) | exact .inr (.inr rfl))) ra_nil))))) (rw_or1 (rt_cmp (ro_ne hr) (re_cmp (ro_lt hr) (re_call (r_bits_of T) (takes_of rfl rfl rfl rfl) hr (by decide) rfl (ra_cons (re_var (i := 2) rfl (by first | exact .inl rfl | exact .inr (.inl rfl) | exact .inr (.inr rfl))) (ra_cons (re_var (i := 4) rfl (by first | exact .inl rfl | exact .inr (.inl rfl) | exact .inr (.inr rfl))) ra_nil))) (re_call (r_bits_of T) (takes_of rfl rfl rfl rfl) hr (by decide) rfl (ra_cons (re_var (i := 2) rfl (by first | exact .inl rfl | exact .inr (.inl rfl) | exact .inr (.inr rfl))) (ra_cons (re_var (i := 5) rfl (by first | exact .inl rfl | exact .inr (.inl rfl) | exact .inr (.inr rfl))) ra_nil))) rfl) (re_cmp (ro_lt hr) (re_var (i := 4) rfl (by first | exact .inl rfl | exact .inr (.inl rfl) | exact .inr (.inr rfl))) (re_var (i := 5) rfl (by first | exact .inl rfl | exact .inr (.inl rfl) | exact .inr (.inr rfl))) rfl) rfl)))) (rss_one (rs_ret re_bl)) rss_nil)
      (rss_cons (rs_setLcIf (i := 3) (tg := .nm 8) (own := [(("k" : Str), 8)]) rfl sc_law.nd rfl rfl (L2.sw_true rfl rfl rfl rfl) (ri_rng1 rfl T.m_range (ra_cons (re_cb (rcl_min rfl) rfl T.m_min bt_min (ra_cons (re_cb (rcl_len) rfl T.m_len bt_len (ra_cons (re_var (i := 6) rfl (by first | exact .inl rfl | exact .inr (.inl rfl) | exact .inr (.inr rfl))) ra_nil)) (ra_cons (re_cb (rcl_len) rfl T.m_len bt_len (ra_cons (re_var (i := 7) rfl (by first | exact .inl rfl | exact .inr (.inl rfl) | exact .inr (.inr rfl))) ra_nil)) ra_nil))) ra_nil)) (by kernel_rfl) (by kernel_rfl) (fun _ _ _ _ _ => pg_name (i := 8) sc_law.nd rfl (.inl rfl)) (fun _ _ _ _ _ => (rt_cmp (ro_ne hr) (re_ix (re_var (i := 6) rfl (by first | exact .inl rfl | exact .inr (.inl rfl) | exact .inr (.inr rfl))) (re_var (i := 8) rfl (by first | exact .inl rfl | exact .inr (.inl rfl) | exact .inr (.inr rfl)))) (re_ix (re_var (i := 7) rfl (by first | exact .inl rfl | exact .inr (.inl rfl) | exact .inr (.inr rfl))) (re_var (i := 8) rfl (by first | exact .inl rfl | exact .inr (.inl rfl) | exact .inr (.inr rfl)))) rfl)) (fun _ _ _ _ _ => (re_var (i := 8) rfl (by first | exact .inl rfl | exact .inr (.inl rfl) | exact .inr (.inr rfl)))))
      (rss_cons (rs_if (rt_not (rt_val (re_call (r__law_alike T 4) (takes_of rfl rfl rfl rfl) hr (by decide) rfl (ra_cons (re_call (r_first_unlike T) (takes_of rfl rfl rfl rfl) hr (by decide) rfl (ra_cons (re_var (i := 2) rfl (by first | exact .inl rfl | exact .inr (.inl rfl) | exact .inr (.inr rfl))) (ra_cons (re_var (i := 4) rfl (by first | exact .inl rfl | exact .inr (.inl rfl) | exact .inr (.inr rfl))) (ra_cons (re_var (i := 5) rfl (by first | exact .inl rfl | exact .inr (.inl rfl) | exact .inr (.inr rfl))) ra_nil)))) (ra_cons (re_if (rt_cmp (ro_eq hr) (re_var (i := 4) rfl (by first | exact .inl rfl | exact .inr (.inl rfl) | exact .inr (.inr rfl))) (re_var (i := 5) rfl (by first | exact .inl rfl | exact .inr (.inl rfl) | exact .inr (.inr rfl))) rfl) re_non (re_ix (re_var (i := 3) rfl (by first | exact .inl rfl | exact .inr (.inl rfl) | exact .inr (.inr rfl))) re_int)) ra_nil))))) (rss_one (rs_ret re_bl)) rss_nil)
      (rss_one (rs_ret (re_call (r__law_refused T) (takes_of rfl rfl rfl rfl) hr (by decide) rfl (ra_cons (re_var (i := 1) rfl (by first | exact .inl rfl | exact .inr (.inl rfl) | exact .inr (.inr rfl))) (ra_cons (re_var (i := 2) rfl (by first | exact .inl rfl | exact .inr (.inl rfl) | exact .inr (.inr rfl))) (ra_cons (re_var (i := 4) rfl (by first | exact .inl rfl | exact .inr (.inl rfl) | exact .inr (.inr rfl))) (ra_cons (re_var (i := 6) rfl (by first | exact .inl rfl | exact .inr (.inl rfl) | exact .inr (.inr rfl))) ra_nil)))))))))))))))
end
end K01

set_option Elab.async false
set_option linter.all false
set_option maxRecDepth 100000
set_option maxHeartbeats 0
namespace K01
open PySem PySem.Spec PyProof.Rows L2 RL
/-! ## the head -/
def clsInit : Stmt → Stmt
  | .ClassDef _ _ _ body _ _ _ _ _ _ _ => body.getD 0 (.Pass ⟨0, 0, 0, 0⟩)
  | s => s
def fdef : List He.Fa := [.glo "is_number", .glo "check", .glo "is_word", .glo "is_family", .glo "is_key", .glo "row_of", .glo "bits_in", .glo "unlike_place", .glo "letters_of", .glo "bits_of", .glo "first_unlike", .glo "key_of_row", .glo "key_of_bits", .glo "_law_taken", .glo "_law_pick", .glo "_law_family", .glo "_law_word", .glo "_law_key", .glo "_law_letters", .glo "_law_bits", .glo "_law_alike", .glo "_law_heard", .glo "_law_refused", .glo "law", .glo "BoughError", .glo "BadArgument", .glo "Refused", .glo "Unread", .free "ValueError", .free "all", .free "any", .free "bool", .free "dict", .free "int", .free "isinstance", .free "len", .free "list", .free "min", .free "range", .free "str"] ++ [.free "super", .free "tuple", .int "DIGIT_BITS" 4, .glo "FAMILIES", .int "KEY_BITS" 16, .str "LETTERS" "abcdefghijklmnopqrstuvwxyz", .int "LETTER_BITS" 5, .int "MOST_KEY" 65535, .int "MOST_LETTERS" 12, .str "NUMBERS" "numbers", .exm "BadArgument" "BadArgument" true, .exm "Refused" "BadArgument" false, .exm "Refused" "Refused" true] ++ []
def fn : List He.DefD := [⟨("is_number", none), "is_number", "is_number", defArgs (top 15), defBody (top 15), defScope (top 15), [], []⟩,
  ⟨("check", none), "check", "check", defArgs (top 16), defBody (top 16), defScope (top 16), [], []⟩,
  ⟨("is_word", none), "is_word", "is_word", defArgs (top 17), defBody (top 17), defScope (top 17), [], []⟩,
  ⟨("is_family", none), "is_family", "is_family", defArgs (top 18), defBody (top 18), defScope (top 18), [], []⟩,
  ⟨("is_key", none), "is_key", "is_key", defArgs (top 19), defBody (top 19), defScope (top 19), [], []⟩,
  ⟨("row_of", none), "row_of", "row_of", defArgs (top 21), defBody (top 21), defScope (top 21), [], []⟩,
  ⟨("bits_in", none), "bits_in", "bits_in", defArgs (top 22), defBody (top 22), defScope (top 22), [], []⟩,
  ⟨("unlike_place", none), "unlike_place", "unlike_place", defArgs (top 23), defBody (top 23), defScope (top 23), [], []⟩,
  ⟨("letters_of", none), "letters_of", "letters_of", defArgs (top 24), defBody (top 24), defScope (top 24), [], []⟩,
  ⟨("bits_of", none), "bits_of", "bits_of", defArgs (top 25), defBody (top 25), defScope (top 25), [], []⟩,
  ⟨("first_unlike", none), "first_unlike", "first_unlike", defArgs (top 26), defBody (top 26), defScope (top 26), [], []⟩,
  ⟨("key_of_row", none), "key_of_row", "key_of_row", defArgs (top 28), defBody (top 28), defScope (top 28), [], []⟩,
  ⟨("key_of_bits", none), "key_of_bits", "key_of_bits", defArgs (top 27), defBody (top 27), defScope (top 27), [], []⟩,
  ⟨("_law_taken", none), "_law_taken", "_law_taken", defArgs (top 30), defBody (top 30), defScope (top 30), [], []⟩,
  ⟨("_law_pick", none), "_law_pick", "_law_pick", defArgs (top 31), defBody (top 31), defScope (top 31), [], []⟩,
  ⟨("_law_family", none), "_law_family", "_law_family", defArgs (top 32), defBody (top 32), defScope (top 32), [], []⟩,
  ⟨("_law_word", none), "_law_word", "_law_word", defArgs (top 33), defBody (top 33), defScope (top 33), [], []⟩,
  ⟨("_law_key", none), "_law_key", "_law_key", defArgs (top 34), defBody (top 34), defScope (top 34), [], []⟩,
  ⟨("_law_letters", none), "_law_letters", "_law_letters", defArgs (top 35), defBody (top 35), defScope (top 35), [], []⟩,
  ⟨("_law_bits", none), "_law_bits", "_law_bits", defArgs (top 36), defBody (top 36), defScope (top 36), [], []⟩,
  ⟨("_law_alike", none), "_law_alike", "_law_alike", defArgs (top 37), defBody (top 37), defScope (top 37), [], []⟩,
  ⟨("_law_heard", none), "_law_heard", "_law_heard", defArgs (top 38), defBody (top 38), defScope (top 38), [], []⟩,
  ⟨("_law_refused", none), "_law_refused", "_law_refused", defArgs (top 39), defBody (top 39), defScope (top 39), [], []⟩,
  ⟨("law", none), "law", "law", defArgs (top 40), defBody (top 40), defScope (top 40), [], []⟩]
def ini : List IniD := [⟨"BadArgument", defArgs (clsInit (top 2)), defBody (clsInit (top 2)), defScope (clsInit (top 2))⟩, ⟨"Refused", defArgs (clsInit (top 3)), defBody (clsInit (top 3)), defScope (clsInit (top 3))⟩]
def ex (K : PySem.W.Frag) : Bool := clsB K "BadArgument" "BoughError" "name" && (clsB K "Refused" "BoughError" "why" && (iniB PySem.Challenge.pw_keyboughs_k01_whole_keys.main.file K "BadArgument" && (iniB PySem.Challenge.pw_keyboughs_k01_whole_keys.main.file K "Refused" && (He.eqO (PySem.W.nsIn K cStatics "thirdparty.any") (some none) && (decide ((tfs.map fun p => (He.cT K p.1).2).Nodup) && He.tupB K "FAMILIES" [.str "numbers", .str "words"])))))
abbrev R : PySem.W.OpenRow := PySem.W.OpenLaw.row PySem.Challenge.rw_keyboughs_k01_whole_keys
abbrev hk : PySem.W.Hook := hookR 5 fdef fn ini (tfs.map (·.1)) ex
def ob (s : PySem.W.SharedT) : AlR := obsR 5 fdef fn ini (tfs.map (·.1)) ex (HandSHeadRun.getT s)
theorem ob_eq (s : PySem.W.SharedT) : ob s = hk.obs s.abs := obsR_eq (HandSHeadRun.getT_eq s)
def loose : List PySem.Str := ([("BoughError" : PySem.Str), ("BadArgument" : PySem.Str), ("Refused" : PySem.Str), ("Unread" : PySem.Str), ("LETTERS" : PySem.Str), ("MOST_LETTERS" : PySem.Str), ("MOST_KEY" : PySem.Str), ("NUMBERS" : PySem.Str), ("WORDS" : PySem.Str), ("FAMILIES" : PySem.Str), ("KEY_BITS" : PySem.Str), ("LETTER_BITS" : PySem.Str), ("DIGIT_BITS" : PySem.Str), ("is_number" : PySem.Str), ("check" : PySem.Str), ("is_word" : PySem.Str), ("is_family" : PySem.Str), ("is_key" : PySem.Str), ("row_of" : PySem.Str), ("bits_in" : PySem.Str), ("unlike_place" : PySem.Str), ("letters_of" : PySem.Str), ("bits_of" : PySem.Str), ("first_unlike" : PySem.Str), ("key_of_bits" : PySem.Str), ("key_of_row" : PySem.Str), ("_law_taken" : PySem.Str), ("_law_pick" : PySem.Str), ("_law_family" : PySem.Str), ("_law_word" : PySem.Str)] : List PySem.Str) ++ ([("_law_key" : PySem.Str), ("_law_letters" : PySem.Str), ("_law_bits" : PySem.Str), ("_law_alike" : PySem.Str), ("_law_heard" : PySem.Str), ("_law_refused" : PySem.Str)] : List PySem.Str)
theorem run (w : World) : HandSHeadRun.RunEq R (PySem.W.view R.prog [40]) hk ob 6000 loose w := by
  intro os
  kernel_rfl
section
variable {P : Program} {w : World} {K : PySem.W.Frag} {h : Heap} {mg : Str → Option Value}
theorem mk_tx {base : Heap} (X : K.In base) (G : base.Ns mainGlobals mg) (hP : P = PySem.Challenge.pw_keyboughs_k01_whole_keys) (c : SaysR fdef fn ini (tfs.map (·.1)) ex h K) (TB : ∀ p ∈ tfs, LamX.TabB base mg (He.cT K p.1).1 (He.cT K p.1).2) : Tx P w K mg base := by
  subst hP
  have m := c.more
  unfold ex at m
  obtain ⟨c1, m⟩ := He.ba m
  obtain ⟨c2, m⟩ := He.ba m
  obtain ⟨c3, m⟩ := He.ba m
  obtain ⟨c4, m⟩ := He.ba m
  obtain ⟨c5, m⟩ := He.ba m
  obtain ⟨m, t0⟩ := He.ba m
  have fb := clsB_ok c1
  have fr := clsB_ok c2
  have ownB := own_txt (base := base) (j := 0) (fn := "name") (pre := "bad argument: ") fb (He.glo_ok X G (c.d.fact 25 (f := .glo "BadArgument") rfl)) (c.ini 0) c3 (He.free_ok X G (c.d.fact 40 (f := .free "super") rfl)) (He.eqO_ok c5) (by kernel_rfl) rfl rfl rfl ⟨_, fun _ => rfl⟩
  have ownR := own_txt (base := base) (j := 0) (fn := "why") (pre := "refused: ") fr (He.glo_ok X G (c.d.fact 26 (f := .glo "Refused") rfl)) (c.ini 1) c4 (He.free_ok X G (c.d.fact 40 (f := .free "super") rfl)) (He.eqO_ok c5) (by kernel_rfl) rfl rfl rfl ⟨_, fun _ => rfl⟩
  have ht : HeardTxt K mg (CB K) (CR K) (He.ga K "Unread") (He.ga K "BoughError") := ⟨fb.cl, fr.cl, He.glo_ok X G (c.d.fact 25 (f := .glo "BadArgument") rfl), He.glo_ok X G (c.d.fact 26 (f := .glo "Refused") rfl), He.glo_ok X G (c.d.fact 27 (f := .glo "Unread") rfl), He.glo_ok X G (c.d.fact 24 (f := .glo "BoughError") rfl), He.free_ok X G (c.d.fact 34 (f := .free "isinstance") rfl), He.free_ok X G (c.d.fact 28 (f := .free "ValueError") rfl), He.exm_ok (c.d.fact 50 (f := .exm "BadArgument" "BadArgument" true) rfl), He.exm_ok (c.d.fact 51 (f := .exm "Refused" "BadArgument" false) rfl), He.exm_ok (c.d.fact 52 (f := .exm "Refused" "Refused" true) rfl)⟩
  exact {
    m_ValueError := He.free_ok X G (c.d.fact 28 (f := .free "ValueError") rfl)
    m_all := He.free_ok X G (c.d.fact 29 (f := .free "all") rfl)
    m_any := He.free_ok X G (c.d.fact 30 (f := .free "any") rfl)
    m_bool := He.free_ok X G (c.d.fact 31 (f := .free "bool") rfl)
    m_dict := He.free_ok X G (c.d.fact 32 (f := .free "dict") rfl)
    m_int := He.free_ok X G (c.d.fact 33 (f := .free "int") rfl)
    m_isinstance := He.free_ok X G (c.d.fact 34 (f := .free "isinstance") rfl)
    m_len := He.free_ok X G (c.d.fact 35 (f := .free "len") rfl)
    m_list := He.free_ok X G (c.d.fact 36 (f := .free "list") rfl)
    m_min := He.free_ok X G (c.d.fact 37 (f := .free "min") rfl)
    m_range := He.free_ok X G (c.d.fact 38 (f := .free "range") rfl)
    m_str := He.free_ok X G (c.d.fact 39 (f := .free "str") rfl)
    m_super := He.free_ok X G (c.d.fact 40 (f := .free "super") rfl)
    m_tuple := He.free_ok X G (c.d.fact 41 (f := .free "tuple") rfl)
    k_DIGIT_BITS := kon_int (He.int_ok X G (c.d.fact 42 (f := .int "DIGIT_BITS" 4) rfl))
    k_FAMILIES := kon_tup (vs := [.str "numbers", .str "words"]) (He.glo_ok X G (c.d.fact 43 (f := .glo "FAMILIES") rfl)) t0 rfl
    k_KEY_BITS := kon_int (He.int_ok X G (c.d.fact 44 (f := .int "KEY_BITS" 16) rfl))
    k_LETTERS := kon_str (He.str_ok X G (c.d.fact 45 (f := .str "LETTERS" "abcdefghijklmnopqrstuvwxyz") rfl))
    k_LETTER_BITS := kon_int (He.int_ok X G (c.d.fact 46 (f := .int "LETTER_BITS" 5) rfl))
    k_MOST_KEY := kon_int (He.int_ok X G (c.d.fact 47 (f := .int "MOST_KEY" 65535) rfl))
    k_MOST_LETTERS := kon_int (He.int_ok X G (c.d.fact 48 (f := .int "MOST_LETTERS" 12) rfl))
    k_NUMBERS := kon_str (He.str_ok X G (c.d.fact 49 (f := .str "NUMBERS" "numbers") rfl))
    own_BadArgument := ownB
    own_Refused := ownR
    tabs := TB
    heard := heard_mk (params := defArgs (top 38)) (body := defBody (top 38)) (scope := defScope (top 38)) (SaysR.at (fa := fdef) (fn := fn) (ini := ini) (tf := tfs.map (·.1)) (ex := ex) X G c 21 21 (by kernel_rfl) (by kernel_rfl)) ⟨by kernel_rfl, by kernel_rfl, by kernel_rfl, by decide +kernel, by kernel_rfl, by decide +kernel, by decide +kernel⟩ (.inl rfl) (fun _ _ _ _ _ _ us hl => match us, hl with | [_], _ => rfl) fun X2 q g cdg h1 h2 => by
      subst h1 h2
      exact heard_gives ht rfl rfl rfl rfl rfl rfl rfl rfl
    d_is_number := SaysR.at (fa := fdef) (fn := fn) (ini := ini) (tf := tfs.map (·.1)) (ex := ex) X G c 0 0 (by kernel_rfl) (by kernel_rfl)
    d_check := SaysR.at (fa := fdef) (fn := fn) (ini := ini) (tf := tfs.map (·.1)) (ex := ex) X G c 1 1 (by kernel_rfl) (by kernel_rfl)
    d_is_word := SaysR.at (fa := fdef) (fn := fn) (ini := ini) (tf := tfs.map (·.1)) (ex := ex) X G c 2 2 (by kernel_rfl) (by kernel_rfl)
    d_is_family := SaysR.at (fa := fdef) (fn := fn) (ini := ini) (tf := tfs.map (·.1)) (ex := ex) X G c 3 3 (by kernel_rfl) (by kernel_rfl)
    d_is_key := SaysR.at (fa := fdef) (fn := fn) (ini := ini) (tf := tfs.map (·.1)) (ex := ex) X G c 4 4 (by kernel_rfl) (by kernel_rfl)
    d_row_of := SaysR.at (fa := fdef) (fn := fn) (ini := ini) (tf := tfs.map (·.1)) (ex := ex) X G c 5 5 (by kernel_rfl) (by kernel_rfl)
    d_bits_in := SaysR.at (fa := fdef) (fn := fn) (ini := ini) (tf := tfs.map (·.1)) (ex := ex) X G c 6 6 (by kernel_rfl) (by kernel_rfl)
    d_unlike_place := SaysR.at (fa := fdef) (fn := fn) (ini := ini) (tf := tfs.map (·.1)) (ex := ex) X G c 7 7 (by kernel_rfl) (by kernel_rfl)
    d_letters_of := SaysR.at (fa := fdef) (fn := fn) (ini := ini) (tf := tfs.map (·.1)) (ex := ex) X G c 8 8 (by kernel_rfl) (by kernel_rfl)
    d_bits_of := SaysR.at (fa := fdef) (fn := fn) (ini := ini) (tf := tfs.map (·.1)) (ex := ex) X G c 9 9 (by kernel_rfl) (by kernel_rfl)
    d_first_unlike := SaysR.at (fa := fdef) (fn := fn) (ini := ini) (tf := tfs.map (·.1)) (ex := ex) X G c 10 10 (by kernel_rfl) (by kernel_rfl)
    d_key_of_row := SaysR.at (fa := fdef) (fn := fn) (ini := ini) (tf := tfs.map (·.1)) (ex := ex) X G c 11 11 (by kernel_rfl) (by kernel_rfl)
    d_key_of_bits := SaysR.at (fa := fdef) (fn := fn) (ini := ini) (tf := tfs.map (·.1)) (ex := ex) X G c 12 12 (by kernel_rfl) (by kernel_rfl)
    d__law_taken := SaysR.at (fa := fdef) (fn := fn) (ini := ini) (tf := tfs.map (·.1)) (ex := ex) X G c 13 13 (by kernel_rfl) (by kernel_rfl)
    d__law_pick := SaysR.at (fa := fdef) (fn := fn) (ini := ini) (tf := tfs.map (·.1)) (ex := ex) X G c 14 14 (by kernel_rfl) (by kernel_rfl)
    d__law_family := SaysR.at (fa := fdef) (fn := fn) (ini := ini) (tf := tfs.map (·.1)) (ex := ex) X G c 15 15 (by kernel_rfl) (by kernel_rfl)
    d__law_word := SaysR.at (fa := fdef) (fn := fn) (ini := ini) (tf := tfs.map (·.1)) (ex := ex) X G c 16 16 (by kernel_rfl) (by kernel_rfl)
    d__law_key := SaysR.at (fa := fdef) (fn := fn) (ini := ini) (tf := tfs.map (·.1)) (ex := ex) X G c 17 17 (by kernel_rfl) (by kernel_rfl)
    d__law_letters := SaysR.at (fa := fdef) (fn := fn) (ini := ini) (tf := tfs.map (·.1)) (ex := ex) X G c 18 18 (by kernel_rfl) (by kernel_rfl)
    d__law_bits := SaysR.at (fa := fdef) (fn := fn) (ini := ini) (tf := tfs.map (·.1)) (ex := ex) X G c 19 19 (by kernel_rfl) (by kernel_rfl)
    d__law_alike := SaysR.at (fa := fdef) (fn := fn) (ini := ini) (tf := tfs.map (·.1)) (ex := ex) X G c 20 20 (by kernel_rfl) (by kernel_rfl)
    d__law_refused := SaysR.at (fa := fdef) (fn := fn) (ini := ini) (tf := tfs.map (·.1)) (ex := ex) X G c 22 22 (by kernel_rfl) (by kernel_rfl)
    d_law := SaysR.at (fa := fdef) (fn := fn) (ini := ini) (tf := tfs.map (·.1)) (ex := ex) X G c 23 23 (by kernel_rfl) (by kernel_rfl) }
end
end K01
open PySem PySem.W PySem.Calls PyProof.Rows
theorem K01.holds_of (hlaw : ∀ (K : PySem.W.Frag), ((K01.tfs.map fun p => (He.cT K p.1).2).Nodup) → ∀ ns : List Int, ns.length ≤ 63 → (∀ z ∈ ns, Builtin.Int.intBits z ≤ 1048576) → (∀ x y : PySem.Str, (x, y) ∈ ([("BadArgument", "Refused")] : List (PySem.Str × PySem.Str)) → He.ga K x ≠ He.ga K y) → ∃ c', K01.F_law K [.scr (ns.map RL.D.int)] (RL.cells0 K K01.tfs) = .ok (.bl true) c') : PySem.Challenge.rw_keyboughs_k01_whole_keys.Holds := by
  w_on; o_law
  refine HandSHeadRun.head_any (r := OpenLaw.row PySem.Challenge.rw_keyboughs_k01_whole_keys) (q := view (OpenLaw.row PySem.Challenge.rw_keyboughs_k01_whole_keys).prog [40]) (H := K01.hk) (ob := K01.ob) (M := 6000) (loose := K01.loose) (d := HandSHeadRun.topDef (OpenLaw.row PySem.Challenge.rw_keyboughs_k01_whole_keys).prog 40) (kwd := []) K01.ob_eq
    (by kernel_rfl) (fun s => by kernel_rfl) K01.run (by kernel_rfl) (by kernel_rfl) (by kernel_rfl) (by rfl) (by first | assumption | decide +kernel) (by decide +kernel) ⟨rfl, rfl, rfl, rfl, rfl, by decide +kernel⟩ ?hw ?hc
  case hw => w_witness2
  case hc =>
    refine LamX.walk_ofTsE (l := PySem.Challenge.rw_keyboughs_k01_whole_keys) (n := 63) (k := 10) (x := "script") (CX := fun w => L2.CX PySem.Challenge.rw_keyboughs_k01_whole_keys.prog w) rfl (by decide) (by kernel_rfl) ⟨rfl, by decide, by decide⟩ ?F (fun w H s e s' ⟨_, _, _, _, _, _, _, _, _, _, _, _, z⟩ => z)
    intro w mg fa h Y G hmg0
    obtain ⟨K, KX, c⟩ := Y
    have hmg : mg ("law" : PySem.Str) = some (.ref fa) := by
      have e : (HandSHeadRun.topDef (OpenLaw.row PySem.Challenge.rw_keyboughs_k01_whole_keys).prog 40).name = ("law" : PySem.Str) := by kernel_rfl
      rw [← e]
      exact hmg0
    have DL := RL.SaysR.at (fa := K01.fdef) (fn := K01.fn) (ini := K01.ini) (tf := K01.tfs.map (·.1)) (ex := K01.ex) (mg := mg) KX G c 23 23 (x := "law") (params := L2.defArgs (K01.top 40)) (body := L2.defBody (K01.top 40)) (scope := L2.defScope (K01.top 40)) (by kernel_rfl) (by kernel_rfl)
    have e := hmg.symm.trans DL.g
    cases e
    obtain ⟨fd, F⟩ := DL.d
    have b := L2.FunD.bindsA (ps := ["script"]) F fun _ _ _ _ _ _ us hl => match us, hl with | [_], _ => rfl
    have m := c.more
    unfold K01.ex at m
    obtain ⟨c1, m⟩ := He.ba m
    obtain ⟨c2, m⟩ := He.ba m
    obtain ⟨c3, m⟩ := He.ba m
    obtain ⟨c4, m⟩ := He.ba m
    obtain ⟨c5, m⟩ := He.ba m
    obtain ⟨m, t0⟩ := He.ba m
    have hnd := of_decide_eq_true m
    refine ⟨K, KX, RL.law_at (l := PySem.Challenge.rw_keyboughs_k01_whole_keys) (tf := K01.tfs) (F := K01.F_law) KX c hnd (fun s u => b s [u] rfl) (fun ns hl hb => hlaw K hnd ns hl hb fun x y hxy e => ?_) fun base hK hN hTB => K01.ok_law (K01.mk_tx hK hN rfl c hTB) F⟩
    have e1 := He.exm_ok (c.d.fact 50 (f := .exm "BadArgument" "BadArgument" true) rfl)
    have e2 := He.exm_ok (c.d.fact 51 (f := .exm "Refused" "BadArgument" false) rfl)
    obtain ⟨rfl, rfl⟩ : x = "BadArgument" ∧ y = "Refused" := by simpa using hxy
    rw [← e, e1] at e2
    cases e2

set_option Elab.async false
set_option linter.all false
set_option maxRecDepth 100000
set_option maxHeartbeats 4000000
/-! ## the plain law of k01: draws -/
namespace K01
open PySem PySem.Spec PyProof.Rows L2 RL
variable {K : PySem.W.Frag}
/-- the cells: the four tables, the row, what came later -/
def cw (K : PySem.W.Frag) (ds : List Int) (p s r : Int) (cs : Cs) : Cs :=
  .tab (tb K 0) "is_word.<locals>.<genexpr>" :: .tab (tb K 1) "key_of_row.<locals>.<genexpr>" :: .tab (tb K 2) "key_of_bits.<locals>.<genexpr>" :: .tab (tb K 3) "_law_refused.<locals>.<lambda>"
    :: .lst [.scr (ds.map .int), .int p, .int s, .int r] :: cs
/-- the cells of a run of the law -/
def Row (K : PySem.W.Frag) (ds : List Int) (c : Cs) : Prop := ∃ p s r cs, 0 ≤ p ∧ c = cw K ds p s r cs
theorem Row.app {ds : List Int} {c x : Cs} (h : Row K ds c) : Row K ds (c ++ x) := by
  obtain ⟨p, s, r, cs, h1, rfl⟩ := h
  exact ⟨p, s, r, cs ++ x, h1, rfl⟩
theorem Row.start (ds : List Int) : Row K ds (cells0 K tfs ++ [.lst [.scr (ds.map .int), .int 0, .int 7401501, .int 0]]) := ⟨0, 7401501, 0, [], by decide, rfl⟩
theorem Row.tab0 {ds : List Int} {c : Cs} (h : Row K ds c) : hasTab c 0 (tb K 0) "is_word.<locals>.<genexpr>" = true := by
  obtain ⟨p, s, r, cs, h1, rfl⟩ := h
  simp [cw, hasTab]
theorem Row.tab1 {ds : List Int} {c : Cs} (h : Row K ds c) : hasTab c 1 (tb K 1) "key_of_row.<locals>.<genexpr>" = true := by
  obtain ⟨p, s, r, cs, h1, rfl⟩ := h
  simp [cw, hasTab]
theorem Row.tab2 {ds : List Int} {c : Cs} (h : Row K ds c) : hasTab c 2 (tb K 2) "key_of_bits.<locals>.<genexpr>" = true := by
  obtain ⟨p, s, r, cs, h1, rfl⟩ := h
  simp [cw, hasTab]
theorem Row.tab3 {ds : List Int} {c : Cs} (h : Row K ds c) : hasTab c 3 (tb K 3) "_law_refused.<locals>.<lambda>" = true := by
  obtain ⟨p, s, r, cs, h1, rfl⟩ := h
  simp [cw, hasTab]
theorem atI_nat {α : Type} {xs : List α} {n : Nat} (h : n < xs.length) : atI xs (n : Int) = some xs[n] := by
  unfold atI ixN
  rw [if_pos (Int.natCast_nonneg n), if_pos (by exact_mod_cast h)]
  simp [h]
theorem atI_int {α : Type} {xs : List α} {p : Int} (h0 : 0 ≤ p) (h1 : p < xs.length) : ∃ n : Nat, ∃ h : n < xs.length, p = n ∧ atI xs p = some xs[n] := by
  obtain ⟨n, rfl⟩ := Int.eq_ofNat_of_zero_le h0
  have h2 : n < xs.length := by omega
  exact ⟨n, h2, rfl, atI_nat h2⟩
theorem atI_ints {ds : List Int} {p : Int} (h0 : 0 ≤ p) (h1 : p < ds.length) : ∃ z, atI (ds.map D.int) p = some (.int z) := by
  obtain ⟨n, h2, rfl, e⟩ := atI_int (xs := ds.map D.int) h0 (by simpa using h1)
  exact ⟨ds[n]'(by simpa using h2), by rw [e]; simp⟩
theorem atI4_0 {α : Type} {a b c d : α} : atI [a, b, c, d] 0 = some a := rfl
theorem atI4_1 {α : Type} {a b c d : α} : atI [a, b, c, d] 1 = some b := rfl
theorem atI4_2 {α : Type} {a b c d : α} : atI [a, b, c, d] 2 = some c := rfl
theorem atI4_3 {α : Type} {a b c d : α} : atI [a, b, c, d] 3 = some d := rfl
theorem taken_ok {ds : List Int} {c : Cs} {m : Int} (h : Row K ds c) (h0 : 0 < m) (h1 : m < 1073741824) :
    ∃ v c', F__law_taken K [.cel 4, .int m] c = .ok (.int v) c' ∧ 0 ≤ v ∧ v < m ∧ Row K ds c' := by
  obtain ⟨p, s, r, cs, hp, rfl⟩ := h
  by_cases hr : r > 0
  · refine ⟨r % m, cw K ds p s (r / m) cs, ?_, Int.emod_nonneg _ (by omega), Int.emod_lt_of_pos _ h0, _, _, _, _, hp, rfl⟩
    simp [F__law_taken, mkF, startD, b__law_taken, sSeq, sIf, tsE, eOp, eVar, eC, oIx, cw, seqOf, atI4_0, atI4_1, atI4_2, atI4_3, oGt, hr, Res.toS, SR.bind, sAsg, gtName, eCall, aCons, aNil, fInt, oMod, oI, h0, h1, oDiv, gtSub, celOf, ixN, sRet, fin]
  by_cases hl : p + 1 > ds.length
  · refine ⟨((s * 48271 + 11) % 2147483647) / 7 % m, cw K ds (p + 1) ((s * 48271 + 11) % 2147483647) r cs, ?_, Int.emod_nonneg _ (by omega), Int.emod_lt_of_pos _ h0, _, _, _, _, by omega, rfl⟩
    simp [F__law_taken, mkF, startD, b__law_taken, sSeq, sIf, tsE, eOp, eVar, eC, oIx, cw, seqOf, atI4_0, atI4_1, atI4_2, atI4_3, oGt, hr, hl, Res.toS, SR.bind, sAsg, gtName, eCall, aCons, aNil, fInt, fLen, oMod, oI, oAdd, oMulA, oMul, h0, h1, oDiv, gtSub, celOf, ixN, sRet, fin, sNext]
  · obtain ⟨z, hz⟩ := atI_ints (ds := ds) hp (by omega)
    by_cases hg : z ≥ 1000000000000000000
    · refine ⟨z % m, cw K ds (p + 1) ((s * 48271 + z + 11) % 2147483647) (z / m) cs, ?_, Int.emod_nonneg _ (by omega), Int.emod_lt_of_pos _ h0, _, _, _, _, by omega, rfl⟩
      simp [F__law_taken, mkF, startD, b__law_taken, sSeq, sIf, tsE, eOp, eVar, eC, oIx, cw, seqOf, atI4_0, atI4_1, atI4_2, atI4_3, hz, oGt, oGe, oPow, oSub, hg, hr, hl, Res.toS, SR.bind, sAsg, gtName, eCall, aCons, aNil, fInt, fLen, oMod, oI, oAdd, oMulA, oMul, h0, h1, oDiv, gtSub, celOf, ixN, sRet, fin, sNext]
    · refine ⟨z % m, cw K ds (p + 1) ((s * 48271 + z + 11) % 2147483647) r cs, ?_, Int.emod_nonneg _ (by omega), Int.emod_lt_of_pos _ h0, _, _, _, _, by omega, rfl⟩
      simp [F__law_taken, mkF, startD, b__law_taken, sSeq, sIf, tsE, eOp, eVar, eC, oIx, cw, seqOf, atI4_0, atI4_1, atI4_2, atI4_3, hz, oGt, oGe, oPow, oSub, hg, hr, hl, Res.toS, SR.bind, sAsg, gtName, eCall, aCons, aNil, fInt, fLen, oMod, oI, oAdd, oMulA, oMul, h0, h1, oDiv, gtSub, celOf, ixN, sRet, fin, sNext]
theorem pick_ok {ds : List Int} {c : Cs} {l : List D} (h : Row K ds c) (h0 : 0 < l.length) (h1 : l.length < 1073741824) :
    ∃ d c', F__law_pick K [.cel 4, .lst l] c = .ok d c' ∧ d ∈ l ∧ Row K ds c' := by
  obtain ⟨v, c', e, h2, h3, h4⟩ := taken_ok (m := l.length) h (by omega) (by omega)
  obtain ⟨n, h5, rfl, e2⟩ := atI_int (xs := l) h2 h3
  refine ⟨l[n], c', ?_, List.getElem_mem h5, h4⟩
  simp [F__law_pick, mkF, startD, b__law_pick, sRet, eOp, eVar, eCall, aCons, aNil, fLen, seqOf, e, oIx, e2, Res.toS, fin]
/-- .. out of the letters of a text -/
theorem pickS_ok {ds : List Int} {c : Cs} {x : Str} (h : Row K ds c) (h0 : 0 < x.length) (h1 : x.length ≤ 100000) :
    ∃ d c', F__law_pick K [.cel 4, .str x] c = .ok (.str ⟨#[d]⟩) c' ∧ d ∈ x.cps.toList ∧ Row K ds c' := by
  obtain ⟨v, c', e, h2, h3, h4⟩ := taken_ok (m := x.length) h (by omega) (by omega)
  obtain ⟨n, h5, rfl, e2⟩ := atI_int (xs := x.cps.toList) h2 (by simpa [Str.length] using h3)
  refine ⟨x.cps.toList[n], c', ?_, List.getElem_mem h5, h4⟩
  simp [F__law_pick, mkF, startD, b__law_pick, sRet, eOp, eVar, eCall, aCons, aNil, fLen, seqOf, e, h1, oIx, e2, Res.toS, fin]
theorem family_ok {ds : List Int} {c : Cs} (h : Row K ds c) :
    ∃ f c', F__law_family K [.cel 4] c = .ok (.str f) c' ∧ (f = "numbers" ∨ f = "words") ∧ Row K ds c' := by
  obtain ⟨d, c', e, h1, h2⟩ := pick_ok (l := [.str "numbers", .str "words"]) h (by decide) (by decide)
  simp at h1
  rcases h1 with rfl | rfl
  · refine ⟨"numbers", c', ?_, .inl rfl, h2⟩
    simp [F__law_family, mkF, startD, b__law_family, sRet, eVar, eC, eCall, eLst, aCons, aNil, e, Res.toS, fin]
  · refine ⟨"words", c', ?_, .inr rfl, h2⟩
    simp [F__law_family, mkF, startD, b__law_family, sRet, eVar, eC, eCall, eLst, aCons, aNil, e, Res.toS, fin]
/-! ### comprehensions, loops -/
theorem compL_map {j : Nat} {f : FE} {s0 : Sl} {g : D → D} {c : Cs} : ∀ {ds acc : List D}, acc.length + ds.length ≤ 100000 → (∀ d ∈ ds, f (s0.set j (some d)) c = .ok (g d) c) → compL (.nm j) (fun _ c => .ok true c) f s0 ds acc c = .ok (acc ++ ds.map g) c
  | [], acc, _, _ => by simp [compL]
  | d :: ds, acc, h1, h2 => by
    have e := h2 d List.mem_cons_self
    have h3 : acc.length < 100000 := by simp at h1; omega
    have ih := compL_map (j := j) (f := f) (s0 := s0) (g := g) (c := c) (ds := ds) (acc := acc ++ [g d]) (by simp at h1 ⊢; omega) (fun x hx => h2 x (List.mem_cons_of_mem _ hx))
    simp [compL, Tg.set, e, h3, ih]
theorem compL_pick {j : Nat} {p : FT} {f : FE} {s0 : Sl} {q : D → Bool} {g : D → D} {c : Cs} : ∀ {ds acc : List D}, acc.length + ds.length ≤ 100000 → (∀ d ∈ ds, p (s0.set j (some d)) c = .ok (q d) c) → (∀ d ∈ ds, q d = true → f (s0.set j (some d)) c = .ok (g d) c) →
    compL (.nm j) p f s0 ds acc c = .ok (acc ++ (ds.filter q).map g) c
  | [], acc, _, _, _ => by simp [compL]
  | d :: ds, acc, h1, h2, h4 => by
    have e := h2 d List.mem_cons_self
    have h3 : acc.length < 100000 := by simp at h1; omega
    cases eq : q d with
    | true =>
      have e4 := h4 d List.mem_cons_self eq
      have ih := compL_pick (j := j) (p := p) (f := f) (s0 := s0) (q := q) (g := g) (c := c) (ds := ds) (acc := acc ++ [g d]) (by simp at h1 ⊢; omega) (fun x hx => h2 x (List.mem_cons_of_mem _ hx)) (fun x hx => h4 x (List.mem_cons_of_mem _ hx))
      simp [compL, Tg.set, e, eq, e4, h3, ih]
    | false =>
      have ih := compL_pick (j := j) (p := p) (f := f) (s0 := s0) (q := q) (g := g) (c := c) (ds := ds) (acc := acc) (by simp at h1 ⊢; omega) (fun x hx => h2 x (List.mem_cons_of_mem _ hx)) (fun x hx => h4 x (List.mem_cons_of_mem _ hx))
      simp [compL, Tg.set, e, eq, ih]
theorem compL_inv {j : Nat} {f : FE} {s0 : Sl} (I : Cs → Prop) (R : D → Prop) : ∀ {ds acc : List D} {c : Cs}, acc.length + ds.length ≤ 100000 → I c → (∀ d ∈ ds, ∀ c, I c → ∃ y c', f (s0.set j (some d)) c = .ok y c' ∧ R y ∧ I c') →
    ∃ ys c', compL (.nm j) (fun _ c => .ok true c) f s0 ds acc c = .ok (acc ++ ys) c' ∧ ys.length = ds.length ∧ (∀ y ∈ ys, R y) ∧ I c'
  | [], acc, c, _, hI, _ => ⟨[], c, by simp [compL], rfl, by simp, hI⟩
  | d :: ds, acc, c, h1, hI, h2 => by
    obtain ⟨y, c1, e, hR, hI1⟩ := h2 d List.mem_cons_self c hI
    have h3 : acc.length < 100000 := by simp at h1; omega
    obtain ⟨ys, c2, ih, hl, hy, hI2⟩ := compL_inv I R (j := j) (f := f) (s0 := s0) (ds := ds) (acc := acc ++ [y]) (c := c1) (by simp at h1 ⊢; omega) hI1 (fun x hx => h2 x (List.mem_cons_of_mem _ hx))
    refine ⟨y :: ys, c2, ?_, by simp [hl], ?_, hI2⟩
    · simp [compL, Tg.set, e, h3, ih]
    · intro z hz
      rcases List.mem_cons.mp hz with rfl | hz
      · exact hR
      · exact hy z hz
theorem rngC_len {lo st : Int} {n : Nat} : (rngC lo st n).length = n := by simp [rngC]
/-! ### words -/
def AL : List Nat := [97, 98, 99, 100, 101, 102, 103, 104, 105, 106, 107, 108, 109, 110, 111, 112, 113, 114, 115, 116, 117, 118, 119, 120, 121, 122]
theorem AB_eq : Str.ofString "abcdefghijklmnopqrstuvwxyz" = SX.S AL := by decide +kernel
structure Wd (w : List Nat) : Prop where
  lo : 1 ≤ w.length
  hi : w.length ≤ 12
  al : ∀ k ∈ w, 97 ≤ k ∧ k ≤ 122
theorem joinL_ones : ∀ w : List Nat, TL.joinL [] (w.map fun k => [k]) = w
  | [] => rfl
  | [_] => rfl
  | x :: y :: w => by
    have ih := joinL_ones (y :: w)
    simp [TL.joinL] at ih ⊢
    exact ih
theorem ones_of : ∀ {ys : List D}, (∀ y ∈ ys, ∃ k, y = .str (SX.S [k]) ∧ 97 ≤ k ∧ k ≤ 122) → ∃ w : List Nat, ys = w.map (fun k => .str (SX.S [k])) ∧ ∀ k ∈ w, 97 ≤ k ∧ k ≤ 122
  | [], _ => ⟨[], rfl, by simp⟩
  | y :: ys, h => by
    obtain ⟨k, rfl, h1⟩ := h y List.mem_cons_self
    obtain ⟨w, rfl, h2⟩ := ones_of (fun z hz => h z (List.mem_cons_of_mem _ hz))
    refine ⟨k :: w, rfl, ?_⟩
    intro z hz
    rcases List.mem_cons.mp hz with rfl | hz
    · exact h1
    · exact h2 z hz
theorem strsOf_ones : ∀ w : List Nat, strsOf (w.map fun k => D.str (SX.S [k])) = some ((w.map fun k => [k]).map SX.S)
  | [] => rfl
  | k :: w => by
    have ih := strsOf_ones w
    simp [strsOf] at ih ⊢
    exact ih
theorem join_ones (w : List Nat) : Txt.join (Str.ofString "") ((w.map fun k => [k]).map SX.S) = SX.S w := by
  have e : Str.ofString "" = SX.S [] := by decide +kernel
  rw [e, SX.join_S, joinL_ones]
theorem lens_ones (w : List Nat) : (((w.map fun k => [k]).map SX.S).map (·.length)).sum = w.length := by
  induction w with
  | nil => rfl
  | cons k w ih =>
    simp only [List.map_cons, List.sum_cons, ih, SX.S_len, List.length_cons, List.length_nil]
    omega
theorem eJoin_ones {f g : FE} {s : Sl} {c c1 c2 : Cs} {w : List Nat} (hf : f s c = .ok (.str (Str.ofString "")) c1) (hg : g s c1 = .ok (.lst (w.map fun k => .str (SX.S [k]))) c2) (hw : w.length ≤ 100000) : eJoin f g s c = .ok (.str (SX.S w)) c2 := by
  have e0 : (Str.ofString "").length = 0 := by decide +kernel
  simp only [eJoin, hf, Res.bind_ok, hg, seqOf, Option.bind_some, strsOf_ones]
  rw [lens_ones, e0, join_ones]
  simp [hw]
theorem bases_ok : ∀ x ∈ [Str.ofString "a", Str.ofString "ab", Str.ofString "ab", Str.ofString "abc", Str.ofString "aqz", Str.ofString "abcdefghijklmnopqrstuvwxyz"], (0 < x.length ∧ x.length ≤ 100000) ∧ ∀ k ∈ x.cps.toList, 97 ≤ k ∧ k ≤ 122 := by decide +kernel
theorem word_ok {ds : List Int} {c : Cs} (h : Row K ds c) :
    ∃ w c', F__law_word K [.cel 4] c = .ok (.str (SX.S w)) c' ∧ Wd w ∧ Row K ds c' := by
  obtain ⟨d, c1, e1, h1, hr1⟩ := pick_ok (l := [Str.ofString "a", Str.ofString "ab", Str.ofString "ab", Str.ofString "abc", Str.ofString "aqz", Str.ofString "abcdefghijklmnopqrstuvwxyz"].map D.str) h (by decide) (by decide)
  obtain ⟨x, hx, rfl⟩ := List.mem_map.mp h1
  obtain ⟨hx1, hx2⟩ := bases_ok x hx
  obtain ⟨d2, c2, e2, h2, hr2⟩ := pick_ok (l := [.int 1, .int 3, .int 4, .int 12]) hr1 (by decide) (by decide)
  obtain ⟨m, rfl, hm⟩ : ∃ m : Int, d2 = .int m ∧ 0 < m ∧ m ≤ 12 := by
    simp at h2
    rcases h2 with rfl | rfl | rfl | rfl <;> exact ⟨_, rfl, by decide, by decide⟩
  obtain ⟨v, c3, e3, h3, h4, hr3⟩ := taken_ok (m := m) hr2 hm.1 (by omega)
  obtain ⟨ys, c4, e4, h5, h6, hr4⟩ := compL_inv (j := 3) (f := eCall (F__law_pick K) (aCons (eVar 0) (aCons (eVar 1) aNil))) (s0 := [some (.cel 4), some (.str x), some (.int (1 + v)), none]) (Row K ds) (fun y => ∃ k, y = .str (SX.S [k]) ∧ 97 ≤ k ∧ k ≤ 122)
    (ds := rngC 0 1 (1 + v).toNat) (acc := []) (c := c3) (by rw [rngC_len]; simp; omega) hr3 (fun d _ c hc => by
      obtain ⟨k, c', e, hk, hr⟩ := pickS_ok (x := x) hc hx1.1 hx1.2
      exact ⟨_, c', by simp [eCall, aCons, aNil, eVar, e], ⟨k, rfl, hx2 k hk⟩, hr⟩)
  obtain ⟨w, rfl, hw⟩ := ones_of h6
  rw [rngC_len, List.length_map] at h5
  refine ⟨w, c4, ?_, ⟨by omega, by omega, hw⟩, hr4⟩
  have hcomp : eComp (fRng1 (aCons (eVar 2) aNil)) (Tg.nm 3) (fun x c => Res.ok true c) (eCall (F__law_pick K) (aCons (eVar 0) (aCons (eVar 1) aNil))) [3] [some (D.cel 4), some (D.str x), some (D.int (1 + v)), none] c3 = .ok (.lst (w.map fun k => .str (SX.S [k]))) c4 := by
    have hb : -(2 ^ 62) ≤ 1 + v ∧ 1 + v < 2 ^ 62 := by omega
    simp only [eComp, fRng1, aCons, aNil, eVar, wipeD, Res.bind_ok, List.getElem?_cons_succ, List.getElem?_cons_zero, if_pos hb, List.set_cons_succ, List.set_cons_zero, e4, List.nil_append]
  have hj := eJoin_ones (f := eC (.str (Str.ofString ""))) (c := c3) rfl hcomp (by omega)
  simp at e1
  simp [F__law_word, mkF, startD, b__law_word, sSeq, sAsg, gtName, eVar, eC, eCall, eLst, aCons, aNil, e1, e2, e3, Res.toS, SR.bind, eOp, oAdd, sRet]
  rw [hj]
  rfl
/-! ### equal texts, keys -/
theorem eq_str {x y : Str} {c : Cs} (hx : PyData.strOk x = true) (hy : PyData.strOk y = true) : oEq (.str x) (.str y) c = .ok (.bl (x == y)) c := by
  simp [oEq, eqD, pyTop, pyOf, SeqAt.shaped, PyData.canLay0, PyData.depth, PyData.eqv, hx, hy]
theorem eq_int {x y : Int} {c : Cs} : oEq (.int x) (.int y) c = .ok (.bl (x == y)) c := by
  simp [oEq, eqD, pyTop, pyOf, SeqAt.shaped, PyData.canLay0, PyData.depth, PyData.eqv]
theorem ne_int {x y : Int} {c : Cs} : oNe (.int x) (.int y) c = .ok (.bl (!(x == y))) c := by
  simp [oNe, eqD, pyTop, pyOf, SeqAt.shaped, PyData.canLay0, PyData.depth, PyData.eqv]
theorem eq_bl {x y : Bool} {c : Cs} : oEq (.bl x) (.bl y) c = .ok (.bl (x == y)) c := by
  simp [oEq, eqD, pyTop, pyOf, SeqAt.shaped, PyData.canLay0, PyData.depth, PyData.eqv]
theorem ne_bl {x y : Bool} {c : Cs} : oNe (.bl x) (.bl y) c = .ok (.bl (!(x == y))) c := by
  simp [oNe, eqD, pyTop, pyOf, SeqAt.shaped, PyData.canLay0, PyData.depth, PyData.eqv]
theorem eq_nn {c : Cs} : oEq (.str "numbers") (.str "numbers") c = .ok (.bl true) c := by kernel_rfl
theorem eq_wn {c : Cs} : oEq (.str "words") (.str "numbers") c = .ok (.bl false) c := by kernel_rfl
theorem eq_nw {c : Cs} : oEq (.str "numbers") (.str "words") c = .ok (.bl false) c := by kernel_rfl
theorem eq_ww {c : Cs} : oEq (.str "words") (.str "words") c = .ok (.bl true) c := by kernel_rfl
/-- a key of the family -/
def IsKey (f : Str) (d : D) : Prop := (f = "numbers" ∧ ∃ k : Nat, d = .int k ∧ k < 65536) ∨ (f = "words" ∧ ∃ w, d = .str (SX.S w) ∧ Wd w)
theorem key_ok {ds : List Int} {c : Cs} {f : Str} (h : Row K ds c) (hf : f = "numbers" ∨ f = "words") :
    ∃ d c', F__law_key K [.cel 4, .str f] c = .ok d c' ∧ IsKey f d ∧ Row K ds c' := by
  rcases hf with rfl | rfl
  · obtain ⟨d1, c1, e1, h1, hr1⟩ := pick_ok (l := [.int 8, .int 20, .int 300, .int 65536]) h (by decide) (by decide)
    obtain ⟨m, rfl, hm⟩ : ∃ m : Int, d1 = .int m ∧ 0 < m ∧ m ≤ 65536 := by
      simp at h1
      rcases h1 with rfl | rfl | rfl | rfl <;> exact ⟨_, rfl, by decide, by decide⟩
    obtain ⟨v, c2, e2, h2, h3, hr2⟩ := taken_ok (m := m) hr1 hm.1 (by omega)
    obtain ⟨d3, c3, e3, h4, hr3⟩ := pick_ok (l := [.int 1, .int 1, .int 16, .int 257]) hr2 (by decide) (by decide)
    obtain ⟨n, rfl, hn⟩ : ∃ n : Int, d3 = .int n ∧ 0 < n ∧ n ≤ 257 := by
      simp at h4
      rcases h4 with rfl | rfl | rfl <;> exact ⟨_, rfl, by decide, by decide⟩
    have hz : 0 ≤ v * n % 65536 := Int.emod_nonneg _ (by decide)
    have hz2 : v * n % 65536 < 65536 := Int.emod_lt_of_pos _ (by decide)
    obtain ⟨k, hk⟩ := Int.eq_ofNat_of_zero_le hz
    refine ⟨.int (v * n % 65536), c3, ?_, .inl ⟨rfl, k, by rw [hk], by omega⟩, hr3⟩
    have hb : v < 18446744073709551616 := by omega
    have hb2 : -18446744073709551616 < v := by omega
    simp [F__law_key, mkF, startD, b__law_key, sSeq, sIf, tsE, sAsg, gtName, eVar, eC, eCall, eLst, aCons, aNil, eq_nw, e1, e2, e3, Res.toS, SR.bind, eOp, oMulA, oMul, oMod, oI, sRet, sNext, fin, hb, hb2]
  · obtain ⟨w, c1, e1, h1, hr1⟩ := word_ok h
    refine ⟨_, c1, ?_, .inr ⟨rfl, w, rfl, h1⟩, hr1⟩
    simp [F__law_key, mkF, startD, b__law_key, sSeq, sIf, tsE, sAsg, gtName, eVar, eC, eCall, eLst, aCons, aNil, eq_ww, e1, Res.toS, SR.bind, eOp, sRet, sNext, fin]
end K01

set_option Elab.async false
set_option linter.all false
set_option maxRecDepth 100000
set_option maxHeartbeats 4000000
/-! ## the plain law of k01: letters, bits -/
namespace K01
open PySem PySem.Spec PyProof.Rows L2 RL
variable {K : PySem.W.Frag}
inductive Ky where
  | num (k : Nat) | wrd (w : List Nat)
  deriving DecidableEq
def Ky.fam : Ky → Str
  | .num _ => "numbers"
  | .wrd _ => "words"
def Ky.dat : Ky → D
  | .num k => .int k
  | .wrd w => .str (SX.S w)
def Ky.Ok : Ky → Prop
  | .num k => k < 65536
  | .wrd w => Wd w
def Ky.lts : Ky → List Nat
  | .num k => [k / 4096 % 16, k / 256 % 16, k / 16 % 16, k % 16]
  | .wrd w => w.map (· - 96) ++ [0]
def Ky.wid : Ky → Nat
  | .num _ => 4
  | .wrd _ => 5
theorem ky_of {f : Str} {d : D} (h : IsKey f d) : ∃ y : Ky, y.Ok ∧ f = y.fam ∧ d = y.dat := by
  rcases h with ⟨rfl, k, rfl, h⟩ | ⟨rfl, w, rfl, h⟩
  · exact ⟨.num k, h, rfl, rfl⟩
  · exact ⟨.wrd w, h, rfl, rfl⟩
def nats (l : List Nat) : List D := l.map fun n => D.int ((n : Nat) : Int)
def bitsN (w n : Nat) : List Nat := (List.range w).map fun i => n / 2 ^ (w - 1 - i) % 2
def bts (w : Nat) (l : List Nat) : List Nat := l.flatMap (bitsN w)
theorem nats_app (a b : List Nat) : nats (a ++ b) = nats a ++ nats b := by simp [nats]
theorem nats_len (a : List Nat) : (nats a).length = a.length := by simp [nats]
theorem bitsN_len (w n : Nat) : (bitsN w n).length = w := by simp [bitsN]
theorem bts_len (w : Nat) : ∀ l : List Nat, (bts w l).length = w * l.length
  | [] => rfl
  | n :: l => by
    have ih := bts_len w l
    simp only [bts, List.flatMap_cons, List.length_append, bitsN_len, List.length_cons] at ih ⊢
    rw [ih, Nat.mul_add]; omega
theorem Ky.lts_len {y : Ky} (h : y.Ok) : y.lts.length ≤ 13 ∧ 2 ≤ y.lts.length := by
  cases y with
  | num k => simp [Ky.lts]
  | wrd w =>
    obtain ⟨h1, h2, h3⟩ := (h : Wd w)
    simp [Ky.lts]; omega
theorem Ky.lts_lt {y : Ky} (h : y.Ok) : ∀ n ∈ y.lts, n < 2 ^ y.wid := by
  cases y with
  | num k => simp [Ky.lts, Ky.wid]; omega
  | wrd w =>
    obtain ⟨h1, h2, h3⟩ := (h : Wd w)
    intro n hn
    simp [Ky.lts] at hn
    rcases hn with ⟨a, ha, rfl⟩ | rfl
    · have := h3 a ha
      simp [Ky.wid]; omega
    · simp [Ky.wid]
theorem band15 (n : Nat) : Builtin.bitAnd (n : Int) 15 = ((n % 16 : Nat) : Int) := by
  have h : (0 : Int) ≤ n := Int.natCast_nonneg n
  have e : n &&& 15 = n % 16 := Nat.and_two_pow_sub_one_eq_mod n 4
  simp [Builtin.bitAnd, h, e]
theorem band1 (n : Nat) : Builtin.bitAnd (n : Int) 1 = ((n % 2 : Nat) : Int) := by
  have h : (0 : Int) ≤ n := Int.natCast_nonneg n
  simp [Builtin.bitAnd, h]
theorem occ_al : ∀ k ∈ AL, ∃ r, Builtin.Str.occurrences (SX.S AL) (SX.S [k]) 0 (SX.S AL).length 1 = (k - 97) :: r := by
  have h : ∀ k ∈ AL, (Builtin.Str.occurrences (SX.S AL) (SX.S [k]) 0 (SX.S AL).length 1).head? = some (k - 97) := by decide +kernel
  intro k hk
  have := h k hk
  cases e : Builtin.Str.occurrences (SX.S AL) (SX.S [k]) 0 (SX.S AL).length 1 with
  | nil => rw [e] at this; cases this
  | cons a r => rw [e] at this; cases this; exact ⟨r, rfl⟩
theorem mem_al {k : Nat} (h : 97 ≤ k ∧ k ≤ 122) : k ∈ AL := by
  have : ∀ j : Fin 26, 97 + j.val ∈ AL := by decide
  have e := this ⟨k - 97, by omega⟩
  have : 97 + (k - 97) = k := by omega
  simpa [this] using e
theorem eIdx_al {f g : FE} {s : Sl} {c c1 c2 : Cs} {k : Nat} (hf : f s c = .ok (.str (Str.ofString "abcdefghijklmnopqrstuvwxyz")) c1) (hg : g s c1 = .ok (.str (SX.S [k])) c2) (hk : 97 ≤ k ∧ k ≤ 122) : eIdx f g s c = .ok (.int ((k - 97 : Nat) : Int)) c2 := by
  obtain ⟨r, e⟩ := occ_al k (mem_al hk)
  rw [AB_eq] at hf
  simp only [eIdx, hf, Res.bind_ok, hg, e]
theorem signs_S (w : List Nat) : RL.signs (SX.S w) = w.map fun k => D.str (SX.S [k]) := by simp [RL.signs]
theorem eComp_map {src : FA} {j : Nat} {f : FE} {vs : List Nat} {s : Sl} {c c1 : Cs} {ds : List D} (g : D → D) (hs : src s c = .ok ds c1) (hl : ds.length ≤ 100000) (h : ∀ d ∈ ds, f ((wipeD s vs).set j (some d)) c1 = .ok (g d) c1) :
    eComp src (.nm j) (fun _ c => .ok true c) f vs s c = .ok (.lst (ds.map g)) c1 := by
  have e := compL_map (j := j) (f := f) (s0 := wipeD s vs) (g := g) (c := c1) (ds := ds) (acc := []) (by simpa using hl) h
  simp only [eComp, hs, Res.bind_ok, e, List.nil_append]
theorem row_num {k : Nat} {c : Cs} : F_row_of K [.str "numbers", .int k] c = .ok (.tup (nats (Ky.num k).lts)) c := by
  have e : eComp (fRng3 (aCons (eOp oSub (eC (D.int 16)) (eC (D.int 4))) (aCons (eNeg (eC (D.int 1))) (aCons (eNeg (eC (D.int 4))) aNil)))) (Tg.nm 2) (fun x c => Res.ok true c) (eOp oAnd (eOp oShr (eVar 1) (eVar 2)) (eC (D.int 15))) [2]
      [some (D.str (Str.ofString "numbers")), some (D.int ↑k), none, none] c = .ok (.lst (nats (Ky.num k).lts)) c := by
    have e0 : ∀ s, fRng3 (aCons (eOp oSub (eC (D.int 16)) (eC (D.int 4))) (aCons (eNeg (eC (D.int 1))) (aCons (eNeg (eC (D.int 4))) aNil))) s c = .ok [.int 12, .int 8, .int 4, .int 0] c := fun s => rfl
    have b0 : ∀ n : Nat, Builtin.bitAnd ((k : Int) / (n : Int)) 15 = ((k / n % 16 : Nat) : Int) := fun n => by
      have := band15 (k / n)
      rwa [Int.natCast_ediv] at this
    have b1 : Builtin.bitAnd ((k : Int) / 4096) 15 = ((k / 4096 % 16 : Nat) : Int) := b0 4096
    have b2 : Builtin.bitAnd ((k : Int) / 256) 15 = ((k / 256 % 16 : Nat) : Int) := b0 256
    have b3 : Builtin.bitAnd ((k : Int) / 16) 15 = ((k / 16 % 16 : Nat) : Int) := b0 16
    have b4 := band15 k
    simp [eComp, e0, compL, Tg.set, wipeD, eOp, eVar, eC, oShr, oAnd, oI, nats, Ky.lts, b1, b2, b3, b4]
  simp [F_row_of, mkF, startD, b_row_of, sSeq, sIf, tsE, eVar, eC, eq_nn, Res.toS, SR.bind, eOp, sRet, fin, eTupOf]
  rw [e]
  rfl
theorem row_wrd {w : List Nat} {c : Cs} (h : Wd w) : F_row_of K [.str "words", .str (SX.S w)] c = .ok (.tup (nats (Ky.wrd w).lts)) c := by
  have e : eComp (fSeq (eVar 1)) (Tg.nm 3) (fun x c => Res.ok true c)
      (eOp oAdd (eIdx (eC (D.str (Str.ofString "abcdefghijklmnopqrstuvwxyz"))) (eVar 3)) (eC (D.int 1))) [3]
      [some (D.str (Str.ofString "words")), some (D.str (SX.S w)), none, none] c = .ok (.lst ((nats (w.map (· - 96))))) c := by
    have hw : ∀ k ∈ w, 97 ≤ k ∧ k ≤ 122 := h.al
    rw [eComp_map (c1 := c) (ds := w.map fun k => D.str (SX.S [k])) (fun d => match d with | .str x => .int (((x.cps[0]?).getD 0 - 96 : Nat) : Int) | d => d) (by simp [fSeq, eVar, walkD, signs_S]) (by have := h.hi; simp; omega) ?_]
    · simp [nats]
    · intro d hd
      obtain ⟨k, hk, rfl⟩ := List.mem_map.mp hd
      have e1 := eIdx_al (f := eC (.str (Str.ofString "abcdefghijklmnopqrstuvwxyz"))) (g := eVar 3) (s := [some (D.str (Str.ofString "words")), some (D.str (SX.S w)), none, some (.str (SX.S [k]))]) (c := c) rfl rfl (hw k hk)
      have := hw k hk
      simp [wipeD, eOp, e1, eC, oAdd]
      omega
  simp [F_row_of, mkF, startD, b_row_of, sSeq, sIf, tsE, eVar, eC, eq_wn, Res.toS, SR.bind, eOp, sRet, fin, eTupOf, sNext]
  rw [e]
  have hl : w.length + 1 ≤ 100000 := by have := h.hi; omega
  simp [eLst, aCons, aNil, eC, oAdd, RL.listOf, oTupOf, seqOf, Ky.lts, nats, hl]
theorem row_ok {y : Ky} {c : Cs} (h : y.Ok) : F_row_of K [.str y.fam, y.dat] c = .ok (.tup (nats y.lts)) c := by
  cases y with
  | num k => exact row_num
  | wrd w => exact row_wrd h
theorem let_num {k : Nat} {c : Cs} : F__law_letters K [.str "numbers", .int k] c = .ok (.tup (nats (Ky.num k).lts)) c := by
  simp [F__law_letters, mkF, startD, b__law_letters, sSeq, sIf, tsE, eVar, eC, eq_nn, Res.toS, SR.bind, eOp, sRet, fin, eTupOf, eComp, eTup, fSeq, walkD, aCons, aNil, compL, Tg.set, wipeD, oDiv, oMod, oI, nats, Ky.lts, oTupOf, seqOf]
theorem let_wrd {w : List Nat} {c : Cs} (h : Wd w) : F__law_letters K [.str "words", .str (SX.S w)] c = .ok (.tup (nats (Ky.wrd w).lts)) c := by
  have e : eComp (fSeq (eVar 1)) (Tg.nm 3) (fun x c => Res.ok true c)
      (eOp oAdd (eIdx (eC (D.str (Str.ofString "abcdefghijklmnopqrstuvwxyz"))) (eVar 3)) (eC (D.int 1))) [3]
      [some (D.str (Str.ofString "words")), some (D.str (SX.S w)), none, none] c = .ok (.lst ((nats (w.map (· - 96))))) c := by
    have hw : ∀ k ∈ w, 97 ≤ k ∧ k ≤ 122 := h.al
    rw [eComp_map (c1 := c) (ds := w.map fun k => D.str (SX.S [k])) (fun d => match d with | .str x => .int (((x.cps[0]?).getD 0 - 96 : Nat) : Int) | d => d) (by simp [fSeq, eVar, walkD, signs_S]) (by have := h.hi; simp; omega) ?_]
    · simp [nats]
    · intro d hd
      obtain ⟨k, hk, rfl⟩ := List.mem_map.mp hd
      have e1 := eIdx_al (f := eC (.str (Str.ofString "abcdefghijklmnopqrstuvwxyz"))) (g := eVar 3) (s := [some (D.str (Str.ofString "words")), some (D.str (SX.S w)), none, some (.str (SX.S [k]))]) (c := c) rfl rfl (hw k hk)
      have := hw k hk
      simp [wipeD, eOp, e1, eC, oAdd]
      omega
  simp [F__law_letters, mkF, startD, b__law_letters, sSeq, sIf, tsE, eVar, eC, eq_wn, Res.toS, SR.bind, eOp, sRet, fin, eTupOf, sNext]
  rw [e]
  have hl : w.length + 1 ≤ 100000 := by have := h.hi; omega
  simp [eTup, aCons, aNil, eC, oAdd, RL.listOf, oTupOf, seqOf, Ky.lts, nats, hl]
theorem let_ok {y : Ky} {c : Cs} (h : y.Ok) : F__law_letters K [.str y.fam, y.dat] c = .ok (.tup (nats y.lts)) c := by
  cases y with
  | num k => exact let_num
  | wrd w => exact let_wrd h
/-! ### bits -/
theorem bits_of4 (n : Nat) : bitsN 4 n = [n / 8 % 2, n / 4 % 2, n / 2 % 2, n % 2] := by simp [bitsN, List.range, List.range.loop]
theorem bits_of5 (n : Nat) : bitsN 5 n = [n / 16 % 2, n / 8 % 2, n / 4 % 2, n / 2 % 2, n % 2] := by simp [bitsN, List.range, List.range.loop]
/-- one letter's bits, by shifting -/
theorem shr_bits {wd : Nat} (hw : wd = 4 ∨ wd = 5) {s : Sl} {c : Cs} {n : Nat} (h2 : s[2]? = some (some (.int wd))) (h4 : s[4]? = some (some (.int n))) (h6 : s.length = 6) :
    eComp (fRng3 (aCons (eOp oSub (eVar 2) (eC (.int 1))) (aCons (eNeg (eC (.int 1))) (aCons (eNeg (eC (.int 1))) aNil)))) (.nm 5) (fun _ c => .ok true c) (eOp oAnd (eOp oShr (eVar 4) (eVar 5)) (eC (.int 1))) [5] s c = .ok (.lst (nats (bitsN wd n))) c := by
  have b0 : ∀ m : Nat, Builtin.bitAnd ((n : Int) / (m : Int)) 1 = ((n / m % 2 : Nat) : Int) := fun m => by
    have := band1 (n / m)
    rwa [Int.natCast_ediv] at this
  have b1 : Builtin.bitAnd ((n : Int) / 16) 1 = ((n / 16 % 2 : Nat) : Int) := b0 16
  have b2 : Builtin.bitAnd ((n : Int) / 8) 1 = ((n / 8 % 2 : Nat) : Int) := b0 8
  have b3 : Builtin.bitAnd ((n : Int) / 4) 1 = ((n / 4 % 2 : Nat) : Int) := b0 4
  have b4 : Builtin.bitAnd ((n : Int) / 2) 1 = ((n / 2 % 2 : Nat) : Int) := b0 2
  have b5 := band1 n
  match s, h6, h2, h4 with
  | [a0, a1, a2, a3, a4, a5], _, h2, h4 =>
    simp at h2 h4
    subst h2
    subst h4
    rcases hw with rfl | rfl
    · have e0 : ∀ s : Sl, s[2]? = some (some (.int 4)) → fRng3 (aCons (eOp oSub (eVar 2) (eC (.int 1))) (aCons (eNeg (eC (.int 1))) (aCons (eNeg (eC (.int 1))) aNil))) s c = .ok [.int 3, .int 2, .int 1, .int 0] c := fun s hs => by
        simp only [fRng3, aCons, aNil, eOp, eVar, hs, eC, eNeg, oSub, oI, Res.bind_ok]
        rfl
      simp [eComp, e0, compL, Tg.set, wipeD, eOp, eVar, eC, oShr, oAnd, oI, nats, bits_of4, b1, b2, b3, b4, b5]
    · have e0 : ∀ s : Sl, s[2]? = some (some (.int 5)) → fRng3 (aCons (eOp oSub (eVar 2) (eC (.int 1))) (aCons (eNeg (eC (.int 1))) (aCons (eNeg (eC (.int 1))) aNil))) s c = .ok [.int 4, .int 3, .int 2, .int 1, .int 0] c := fun s hs => by
        simp only [fRng3, aCons, aNil, eOp, eVar, hs, eC, eNeg, oSub, oI, Res.bind_ok]
        rfl
      simp [eComp, e0, compL, Tg.set, wipeD, eOp, eVar, eC, oShr, oAnd, oI, nats, bits_of5, b1, b2, b3, b4, b5]
theorem Ky.wid_of (y : Ky) : y.wid = 4 ∨ y.wid = 5 := by cases y <;> simp [Ky.wid]
theorem wid_eq {y : Ky} {s : Sl} {c : Cs} (h : s[0]? = some (some (.str y.fam))) : eIf (tsE (eOp oEq (eVar 0) (eC (.str "numbers")))) (eC (.int 4)) (eC (.int 5)) s c = .ok (.int y.wid) c := by
  cases y with
  | num k =>
    have h' : s[0]? = some (some (.str "numbers")) := h
    simp only [eIf, tsE, eOp, eVar, h', eC, Res.bind_ok, eq_nn, Ky.wid, if_true]; rfl
  | wrd w =>
    have h' : s[0]? = some (some (.str "words")) := h
    simp only [eIf, tsE, eOp, eVar, h', eC, Res.bind_ok, eq_wn, Ky.wid]; rfl
theorem bits_loop {wd : Nat} (hw : wd = 4 ∨ wd = 5) {f k : Option D} {c0 : Cs} : ∀ {l acc : List Nat} {a : Option D}, acc.length + wd * l.length ≤ 100000 → ∃ s',
    loopL (gtName 4) (sDrop (eExt (eVar 3) (eComp (fRng3 (aCons (eOp oSub (eVar 2) (eC (.int 1))) (aCons (eNeg (eC (.int 1))) (aCons (eNeg (eC (.int 1))) aNil)))) (.nm 5) (fun _ c => .ok true c) (eOp oAnd (eOp oShr (eVar 4) (eVar 5)) (eC (.int 1))) [5])))
      (nats l) [f, k, some (.int wd), some (.cel c0.length), a, none] (c0 ++ [.lst (nats acc)]) = .nx s' (c0 ++ [.lst (nats (acc ++ bts wd l))]) ∧ s'[3]? = some (some (.cel c0.length))
  | [], acc, a, _ => ⟨[f, k, some (.int wd), some (.cel c0.length), a, none], by simp [nats, loopL, bts], rfl⟩
  | n :: l, acc, a, h => by
    have h1 : acc.length + wd ≤ 100000 := by rw [List.length_cons, Nat.mul_add] at h; omega
    obtain ⟨s', ih, h3⟩ := bits_loop hw (f := f) (k := k) (c0 := c0) (l := l) (acc := acc ++ bitsN wd n) (a := some (.int n)) (by rw [List.length_append, bitsN_len]; rw [List.length_cons, Nat.mul_add] at h; omega)
    refine ⟨s', ?_, h3⟩
    have e := shr_bits hw (s := [f, k, some (.int wd), some (.cel c0.length), some (.int n), none]) (c := c0 ++ [.lst (nats acc)]) (n := n) rfl rfl rfl
    have e2 : bts wd (n :: l) = bitsN wd n ++ bts wd l := by simp [bts]
    rw [e2, ← List.append_assoc, ← ih]
    show loopL _ _ (.int n :: nats l) _ _ = _
    rw [loopL]
    simp only [gtName, SR.bind, List.set_cons_succ, List.set_cons_zero]
    have e4 : (nats acc).length + (nats (bitsN wd n)).length ≤ 100000 := by rw [nats_len, nats_len, bitsN_len]; exact h1
    simp [sDrop, eExt, eVar, celOf, e, RL.listOf, e4, Res.toS, nats_app]
theorem bits_in_ok {y : Ky} {c : Cs} (h : y.Ok) : F_bits_in K [.str y.fam, y.dat] c = .ok (.tup (nats (bts y.wid y.lts))) (c ++ [.lst (nats (bts y.wid y.lts))]) := by
  have hl := Ky.lts_len h
  have hb : y.wid * y.lts.length ≤ 65 := by
    rcases y.wid_of with e | e <;> rw [e] <;> omega
  obtain ⟨s', e, h3⟩ := bits_loop y.wid_of (f := some (.str y.fam)) (k := some y.dat) (c0 := c) (l := y.lts) (acc := []) (a := none) (by simp; omega)
  have ew := wid_eq (y := y) (s := [some (.str y.fam), some y.dat, none, none, none, none]) (c := c) rfl
  simp only [F_bits_in, mkF, startD, b_bits_in, List.length_cons, List.length_nil, if_pos, List.map_cons, List.map_nil, List.replicate, List.cons_append, List.nil_append, sSeq, sAsg, ew, Res.toS, gtName, List.set_cons_succ, List.set_cons_zero, SR.bind, eNew, aNil, Res.bind_ok]
  have n0 : nats [] = [] := rfl
  rw [n0, List.nil_append] at e
  simp [sSeq, sFor, fSeq, eCall, aCons, aNil, eVar, row_ok h, walkD, Res.toS, SR.bind, sRet, eTupOf]
  rw [e]
  simp [sRet, eTupOf, Res.toS, eVar, h3, oTupOf, seqOf, fin]
/-! the law's own bits -/
theorem div_bits {wd : Nat} (hw : wd = 4 ∨ wd = 5) {y : Ky} (hy : y.wid = wd) {s : Sl} {c : Cs} {n : Nat} (h0 : s[0]? = some (some (.str y.fam))) (h3 : s[3]? = some (some (.int n))) (h6 : s.length = 5) :
    eComp (fSeq (eIf (tsE (eOp oEq (eVar 0) (eC (.str "numbers")))) (eTup (aCons (eC (.int 8)) (aCons (eC (.int 4)) (aCons (eC (.int 2)) (aCons (eC (.int 1)) aNil))))) (eTup (aCons (eC (.int 16)) (aCons (eC (.int 8)) (aCons (eC (.int 4)) (aCons (eC (.int 2)) (aCons (eC (.int 1)) aNil)))))))) (.nm 4) (fun _ c => .ok true c) (eOp oMod (eOp oDiv (eVar 3) (eVar 4)) (eC (.int 2))) [4] s c = .ok (.lst (nats (bitsN wd n))) c := by
  match s, h6, h0, h3 with
  | [a0, a1, a2, a3, a4], _, h0, h3 =>
    simp at h0 h3
    subst h0
    subst h3
    cases y with
    | num k =>
      obtain rfl : 4 = wd := hy
      have e : oEq (.str (Ky.num k).fam) (.str "numbers") c = .ok (.bl true) c := eq_nn
      simp [eComp, fSeq, eIf, tsE, e, eTup, aCons, aNil, eC, walkD, compL, Tg.set, wipeD, eOp, eVar, oDiv, oMod, oI, nats, bits_of4]
    | wrd w =>
      obtain rfl : 5 = wd := hy
      have e : oEq (.str (Ky.wrd w).fam) (.str "numbers") c = .ok (.bl false) c := eq_wn
      simp [eComp, fSeq, eIf, tsE, e, eTup, aCons, aNil, eC, walkD, compL, Tg.set, wipeD, eOp, eVar, oDiv, oMod, oI, nats, bits_of5]
theorem lawbits_loop {y : Ky} {k : Option D} {c : Cs} : ∀ {l acc : List Nat} {a : Option D}, acc.length + y.wid * l.length ≤ 100000 → ∃ s',
    loopL (gtName 3) (sAsg (eOp oAdd (eVar 2) (eComp (fSeq (eIf (tsE (eOp oEq (eVar 0) (eC (.str "numbers")))) (eTup (aCons (eC (.int 8)) (aCons (eC (.int 4)) (aCons (eC (.int 2)) (aCons (eC (.int 1)) aNil))))) (eTup (aCons (eC (.int 16)) (aCons (eC (.int 8)) (aCons (eC (.int 4)) (aCons (eC (.int 2)) (aCons (eC (.int 1)) aNil)))))))) (.nm 4) (fun _ c => .ok true c) (eOp oMod (eOp oDiv (eVar 3) (eVar 4)) (eC (.int 2))) [4])) (gtName 2))
      (nats l) [some (.str y.fam), k, some (.lst (nats acc)), a, none] c = .nx s' c ∧ s'[2]? = some (some (.lst (nats (acc ++ bts y.wid l))))
  | [], acc, a, _ => ⟨[some (.str y.fam), k, some (.lst (nats acc)), a, none], by simp [nats, loopL], by simp [bts]⟩
  | n :: l, acc, a, h => by
    have h1 : acc.length + y.wid ≤ 100000 := by rw [List.length_cons, Nat.mul_add] at h; omega
    obtain ⟨s', ih, h3⟩ := lawbits_loop (y := y) (k := k) (c := c) (l := l) (acc := acc ++ bitsN y.wid n) (a := some (.int n)) (by rw [List.length_append, bitsN_len]; rw [List.length_cons, Nat.mul_add] at h; omega)
    have e2 : bts y.wid (n :: l) = bitsN y.wid n ++ bts y.wid l := by simp [bts]
    refine ⟨s', ?_, by rw [h3, e2, List.append_assoc]⟩
    have e := div_bits y.wid_of rfl (y := y) (s := [some (.str y.fam), k, some (.lst (nats acc)), some (.int n), none]) (c := c) (n := n) rfl rfl rfl
    rw [← ih]
    show loopL _ _ (.int n :: nats l) _ _ = _
    rw [loopL]
    have e4 : (nats acc).length + (nats (bitsN y.wid n)).length ≤ 100000 := by rw [nats_len, nats_len, bitsN_len]; exact h1
    have e5 : eOp oAdd (eVar 2) (eComp (fSeq (eIf (tsE (eOp oEq (eVar 0) (eC (.str "numbers")))) (eTup (aCons (eC (.int 8)) (aCons (eC (.int 4)) (aCons (eC (.int 2)) (aCons (eC (.int 1)) aNil))))) (eTup (aCons (eC (.int 16)) (aCons (eC (.int 8)) (aCons (eC (.int 4)) (aCons (eC (.int 2)) (aCons (eC (.int 1)) aNil)))))))) (.nm 4) (fun _ c => .ok true c) (eOp oMod (eOp oDiv (eVar 3) (eVar 4)) (eC (.int 2))) [4])
        [some (.str y.fam), k, some (.lst (nats acc)), some (.int n), none] c = .ok (.lst (nats (acc ++ bitsN y.wid n))) c := by
      show ((eComp _ _ _ _ _ _ c).bind fun e c2 => oAdd (.lst (nats acc)) e c2) = _
      rw [e]
      simp [oAdd, RL.listOf, e4, nats_app]
    simp only [gtName, SR.bind, List.set_cons_succ, List.set_cons_zero, sAsg, e5, Res.toS]
theorem lawbits_ok {y : Ky} {c : Cs} (h : y.Ok) : F__law_bits K [.str y.fam, y.dat] c = .ok (.tup (nats (bts y.wid y.lts))) c := by
  have hl := Ky.lts_len h
  have hb : y.wid * y.lts.length ≤ 65 := by
    rcases y.wid_of with e | e <;> rw [e] <;> omega
  obtain ⟨s', e, h3⟩ := lawbits_loop (y := y) (k := some y.dat) (c := c) (l := y.lts) (acc := []) (a := none) (by simp; omega)
  have n0 : nats [] = [] := rfl
  rw [n0] at e
  rw [List.nil_append] at h3
  simp [F__law_bits, mkF, startD, b__law_bits, sSeq, sAsg, eLst, aNil, gtName, Res.toS, SR.bind, sFor, fSeq, eCall, aCons, eVar, let_ok h, walkD, sRet, eTupOf]
  rw [e]
  simp [sRet, eTupOf, Res.toS, eVar, h3, oTupOf, seqOf, fin]
end K01

set_option Elab.async false
set_option linter.all false
set_option maxRecDepth 100000
set_option maxHeartbeats 4000000
/-! ## the plain law of k01: checks -/
namespace K01
open PySem PySem.Spec PyProof.Rows L2 RL
variable {K : PySem.W.Frag}
theorem kt_str_str : kitBs "str" ["str"] = some true := by kernel_rfl
theorem kt_str_int : kitBs "str" ["int"] = some false := by kernel_rfl
theorem kt_str_bool : kitBs "str" ["bool"] = some false := by kernel_rfl
theorem kt_str_tuple : kitBs "str" ["tuple"] = some false := by kernel_rfl
theorem kt_str_list : kitBs "str" ["list"] = some false := by kernel_rfl
theorem kt_str_dict : kitBs "str" ["dict"] = some false := by kernel_rfl
theorem kt_str_tl : kitBs "str" ["tuple", "list"] = some false := by kernel_rfl
theorem kt_int_str : kitBs "int" ["str"] = some false := by kernel_rfl
theorem kt_int_int : kitBs "int" ["int"] = some true := by kernel_rfl
theorem kt_int_bool : kitBs "int" ["bool"] = some false := by kernel_rfl
theorem kt_int_tuple : kitBs "int" ["tuple"] = some false := by kernel_rfl
theorem kt_int_list : kitBs "int" ["list"] = some false := by kernel_rfl
theorem kt_int_dict : kitBs "int" ["dict"] = some false := by kernel_rfl
theorem kt_int_tl : kitBs "int" ["tuple", "list"] = some false := by kernel_rfl
theorem kt_bool_str : kitBs "bool" ["str"] = some false := by kernel_rfl
theorem kt_bool_int : kitBs "bool" ["int"] = some true := by kernel_rfl
theorem kt_bool_bool : kitBs "bool" ["bool"] = some true := by kernel_rfl
theorem kt_bool_tuple : kitBs "bool" ["tuple"] = some false := by kernel_rfl
theorem kt_bool_list : kitBs "bool" ["list"] = some false := by kernel_rfl
theorem kt_bool_dict : kitBs "bool" ["dict"] = some false := by kernel_rfl
theorem kt_bool_tl : kitBs "bool" ["tuple", "list"] = some false := by kernel_rfl
theorem kt_NoneType_str : kitBs "NoneType" ["str"] = some false := by kernel_rfl
theorem kt_NoneType_int : kitBs "NoneType" ["int"] = some false := by kernel_rfl
theorem kt_NoneType_bool : kitBs "NoneType" ["bool"] = some false := by kernel_rfl
theorem kt_NoneType_tuple : kitBs "NoneType" ["tuple"] = some false := by kernel_rfl
theorem kt_NoneType_list : kitBs "NoneType" ["list"] = some false := by kernel_rfl
theorem kt_NoneType_dict : kitBs "NoneType" ["dict"] = some false := by kernel_rfl
theorem kt_NoneType_tl : kitBs "NoneType" ["tuple", "list"] = some false := by kernel_rfl
theorem kt_tuple_str : kitBs "tuple" ["str"] = some false := by kernel_rfl
theorem kt_tuple_int : kitBs "tuple" ["int"] = some false := by kernel_rfl
theorem kt_tuple_bool : kitBs "tuple" ["bool"] = some false := by kernel_rfl
theorem kt_tuple_tuple : kitBs "tuple" ["tuple"] = some true := by kernel_rfl
theorem kt_tuple_list : kitBs "tuple" ["list"] = some false := by kernel_rfl
theorem kt_tuple_dict : kitBs "tuple" ["dict"] = some false := by kernel_rfl
theorem kt_tuple_tl : kitBs "tuple" ["tuple", "list"] = some true := by kernel_rfl
theorem kt_list_str : kitBs "list" ["str"] = some false := by kernel_rfl
theorem kt_list_int : kitBs "list" ["int"] = some false := by kernel_rfl
theorem kt_list_bool : kitBs "list" ["bool"] = some false := by kernel_rfl
theorem kt_list_tuple : kitBs "list" ["tuple"] = some false := by kernel_rfl
theorem kt_list_list : kitBs "list" ["list"] = some true := by kernel_rfl
theorem kt_list_dict : kitBs "list" ["dict"] = some false := by kernel_rfl
theorem kt_list_tl : kitBs "list" ["tuple", "list"] = some true := by kernel_rfl

theorem check_t {nm : Str} {c : Cs} : F_check K [.bl true, .str nm] c = .ok .non c := by
  simp [F_check, mkF, startD, b_check, sIf, tsNot, tsE, eVar, Res.toS, sNext, fin]
theorem check_f {nm : Str} {c : Cs} (h : nm.length ≤ 100000) : F_check K [.bl false, .str nm] c = .err ⟨CB K, [("name", .str nm)]⟩ c := by
  simp [F_check, mkF, startD, b_check, sIf, tsNot, tsE, eVar, Res.toS, sRaise, h, fin]
theorem fam_t {y : Ky} {c : Cs} : F_is_family K [.str y.fam] c = .ok (.bl true) c := by
  cases y <;> kernel_rfl
theorem isnum {i : Int} {c : Cs} : F_is_number K [.int i, .int 0, .int 65535] c = .ok (.bl (decide (0 ≤ i) && decide (i ≤ 65535))) c := by
  by_cases h0 : 0 ≤ i
  · simp [F_is_number, mkF, startD, b_is_number, sRet, eAnd, eIsi, eVar, isiD, tyName, kt_int_int, kt_int_bool, eNot, eChain, oLe, Res.toS, fin, h0]
  · simp [F_is_number, mkF, startD, b_is_number, sRet, eAnd, eIsi, eVar, isiD, tyName, kt_int_int, kt_int_bool, eNot, eChain, oLe, Res.toS, fin, h0]
theorem qL_all {j : Nat} {f : FE} {s0 : Sl} {q : D → Bool} {c : Cs} : ∀ {ds : List D}, (∀ d ∈ ds, f (s0.set j (some d)) c = .ok (.bl (q d)) c) → qL false (.nm j) f s0 ds c = .ok (ds.all q) c
  | [], _ => rfl
  | d :: ds, h => by
    have ih := qL_all (j := j) (f := f) (s0 := s0) (q := q) (c := c) (ds := ds) (fun x hx => h x (List.mem_cons_of_mem _ hx))
    have e := h d List.mem_cons_self
    cases eq : q d with
    | true => simp [qL, Tg.set, e, eq, ih]
    | false => simp [qL, Tg.set, e, eq]
theorem qL_any {j : Nat} {f : FE} {s0 : Sl} {q : D → Bool} {c : Cs} : ∀ {ds : List D}, (∀ d ∈ ds, f (s0.set j (some d)) c = .ok (.bl (q d)) c) → qL true (.nm j) f s0 ds c = .ok (ds.any q) c
  | [], _ => rfl
  | d :: ds, h => by
    have ih := qL_any (j := j) (f := f) (s0 := s0) (q := q) (c := c) (ds := ds) (fun x hx => h x (List.mem_cons_of_mem _ hx))
    have e := h d List.mem_cons_self
    cases eq : q d with
    | true => simp [qL, Tg.set, e, eq]
    | false => simp [qL, Tg.set, e, eq, ih]
def sgnD : D → Nat
  | .str x => (x.cps[0]?).getD 0
  | _ => 0
theorem isword {w : List Nat} {c : Cs} (hc : hasTab c 0 (tb K 0) "is_word.<locals>.<genexpr>" = true) (hl : w.length ≤ 100000) : F_is_word K [.str (SX.S w)] c = .ok (.bl (decide (1 ≤ w.length) && decide (w.length ≤ 12) && w.all (fun k => decide (k ∈ AL)))) c := by
  have el : (SX.S w).length = w.length := SX.S_len w
  by_cases h0 : ¬ 1 ≤ w.length
  · have h0' : ¬ (1 : Int) ≤ (w.length : Int) := by omega
    simp [F_is_word, mkF, startD, b_is_word, sSeq, sIf, tsOr, tsNot, tsE, eIsi, eVar, eC, isiD, tyName, kt_str_str, eChain, oLe, eCall, aCons, aNil, fLen, el, hl, sRet, Res.toS, SR.bind, fin, h0, h0']
  have h0 : 1 ≤ w.length := by omega
  have h0' : (1 : Int) ≤ (w.length : Int) := by omega
  by_cases h1 : ¬ w.length ≤ 12
  · have h1' : ¬ (w.length : Int) ≤ 12 := by omega
    simp [F_is_word, mkF, startD, b_is_word, sSeq, sIf, tsOr, tsNot, tsE, eIsi, eVar, eC, isiD, tyName, kt_str_str, eChain, oLe, eCall, aCons, aNil, fLen, el, hl, sRet, Res.toS, SR.bind, fin, h0, h0', h1, h1']
  · have h1 : w.length ≤ 12 := by omega
    have e : eQ false 0 (tb K 0) "is_word.<locals>.<genexpr>" (fSeq (eVar 0)) (.nm 1) (eOp oIn (eVar 1) (eC (.str "abcdefghijklmnopqrstuvwxyz"))) [1] [some (.str (SX.S w)), none] c = .ok (.bl (w.all (fun k => decide (k ∈ AL)))) c := by
      have q := qL_all (j := 1) (f := eOp oIn (eVar 1) (eC (.str "abcdefghijklmnopqrstuvwxyz"))) (s0 := [some (.str (SX.S w)), none]) (q := fun d => decide (sgnD d ∈ AL)) (c := c) (ds := w.map fun k => D.str (SX.S [k])) (fun d hd => by
        obtain ⟨k, hk, rfl⟩ := List.mem_map.mp hd
        have e1 := SX.in_one AL k
        rw [← AB_eq] at e1
        simp only [eOp, eVar, eC, Res.bind_ok, List.set_cons_succ, List.set_cons_zero, List.getElem?_cons_succ, List.getElem?_cons_zero, oIn, inD, e1, sgnD]
        simp)
      simp only [eQ, fSeq, eVar, Res.bind_ok, List.getElem?_cons_zero, walkD, signs_S, hc, if_true, wipeD, List.set_cons_succ, List.set_cons_zero, q]
      simp [sgnD, List.all_map, Function.comp_def]
    have h1' : (w.length : Int) ≤ 12 := by omega
    simp [F_is_word, mkF, startD, b_is_word, sSeq, sIf, tsOr, tsNot, tsE, eIsi, eVar, eC, isiD, tyName, kt_str_str, eChain, oLe, eCall, aCons, aNil, fLen, el, hl, sRet, Res.toS, SR.bind, fin, h0, h1, h0', h1', sNext]
    rw [e]
theorem all_al {w : List Nat} (h : ∀ k ∈ w, 97 ≤ k ∧ k ≤ 122) : w.all (fun k => decide (k ∈ AL)) = true := by
  rw [List.all_eq_true]
  exact fun k hk => decide_eq_true (mem_al (h k hk))
theorem key_t {y : Ky} {c : Cs} (hc : hasTab c 0 (tb K 0) "is_word.<locals>.<genexpr>" = true) (h : y.Ok) : F_is_key K [.str y.fam, y.dat] c = .ok (.bl true) c := by
  cases y with
  | num k =>
    have h' : k < 65536 := h
    have h1 : (k : Int) ≤ 65535 := by omega
    simp [Ky.fam, Ky.dat, F_is_key, mkF, startD, b_is_key, sRet, eIf, tsE, eOp, eVar, eC, eq_nn, eCall, aCons, aNil, isnum, Res.toS, fin, h1]
  | wrd w =>
    have h' : Wd w := h
    have e := isword (K := K) hc (w := w) (by have := h'.hi; omega)
    simp [h'.lo, h'.hi] at e
    have ea := all_al h'.al
    simp [Ky.fam, Ky.dat, F_is_key, mkF, startD, b_is_key, sRet, eIf, tsE, eOp, eVar, eC, eq_wn, eCall, aCons, aNil, e, Res.toS, fin]
    simpa using ea
/-- a key that no family holds -/
def Wrong (d : D) : Prop := d = .non ∨ d = .int (-1) ∨ d = .int 65536 ∨ d = .bl true ∨ d = .str "" ∨ d = .str "A" ∨ d = .str "abcdefghijklm" ∨ d = .tup [] ∨ d = .tup [.int 7]
theorem wnum {d : D} {c : Cs} (h : Wrong d) : F_is_number K [d, .int 0, .int 65535] c = .ok (.bl false) c := by
  rcases h with rfl | rfl | rfl | rfl | rfl | rfl | rfl | rfl | rfl <;> kernel_rfl
theorem wstr : ∀ x ∈ [Str.ofString "", Str.ofString "A", Str.ofString "abcdefghijklm"], ∃ w, x = SX.S w ∧ w.length ≤ 100000 ∧ (decide (1 ≤ w.length) && decide (w.length ≤ 12) && w.all (fun k => decide (k ∈ AL))) = false := by
  have h : ∀ x ∈ [Str.ofString "", Str.ofString "A", Str.ofString "abcdefghijklm"], x.cps.toList.length ≤ 100000 ∧ (decide (1 ≤ x.cps.toList.length) && decide (x.cps.toList.length ≤ 12) && x.cps.toList.all (fun k => decide (k ∈ AL))) = false := by decide +kernel
  exact fun x hx => ⟨x.cps.toList, (SX.S_tl x).symm, h x hx⟩
theorem wword {d : D} {c : Cs} (hc : hasTab c 0 (tb K 0) "is_word.<locals>.<genexpr>" = true) (h : Wrong d) : F_is_word K [d] c = .ok (.bl false) c := by
  have hs : ∀ x ∈ [Str.ofString "", Str.ofString "A", Str.ofString "abcdefghijklm"], F_is_word K [.str x] c = .ok (.bl false) c := by
    intro x hx
    obtain ⟨w, rfl, h1, h2⟩ := wstr x hx
    rw [isword hc h1, h2]
  rcases h with rfl | rfl | rfl | rfl | rfl | rfl | rfl | rfl | rfl
  · simp [F_is_word, mkF, startD, b_is_word, sSeq, sIf, tsOr, tsNot, tsE, eIsi, eVar, eC, isiD, tyName, kt_NoneType_str, sRet, Res.toS, SR.bind, fin]
  · simp [F_is_word, mkF, startD, b_is_word, sSeq, sIf, tsOr, tsNot, tsE, eIsi, eVar, eC, isiD, tyName, kt_int_str, sRet, Res.toS, SR.bind, fin]
  · simp [F_is_word, mkF, startD, b_is_word, sSeq, sIf, tsOr, tsNot, tsE, eIsi, eVar, eC, isiD, tyName, kt_int_str, sRet, Res.toS, SR.bind, fin]
  · simp [F_is_word, mkF, startD, b_is_word, sSeq, sIf, tsOr, tsNot, tsE, eIsi, eVar, eC, isiD, tyName, kt_bool_str, sRet, Res.toS, SR.bind, fin]
  · exact hs _ (by simp)
  · exact hs _ (by simp)
  · exact hs _ (by simp)
  · simp [F_is_word, mkF, startD, b_is_word, sSeq, sIf, tsOr, tsNot, tsE, eIsi, eVar, eC, isiD, tyName, kt_tuple_str, sRet, Res.toS, SR.bind, fin]
  · simp [F_is_word, mkF, startD, b_is_word, sSeq, sIf, tsOr, tsNot, tsE, eIsi, eVar, eC, isiD, tyName, kt_tuple_str, sRet, Res.toS, SR.bind, fin]
theorem key_f {y : Ky} {d : D} {c : Cs} (hc : hasTab c 0 (tb K 0) "is_word.<locals>.<genexpr>" = true) (h : Wrong d) : F_is_key K [.str y.fam, d] c = .ok (.bl false) c := by
  cases y with
  | num k => simp [Ky.fam, Ky.dat, F_is_key, mkF, startD, b_is_key, sRet, eIf, tsE, eOp, eVar, eC, eq_nn, eCall, aCons, aNil, wnum h, Res.toS, fin]
  | wrd w => simp [Ky.fam, Ky.dat, F_is_key, mkF, startD, b_is_key, sRet, eIf, tsE, eOp, eVar, eC, eq_wn, eCall, aCons, aNil, wword hc h, Res.toS, fin]
/-- no family -/
def NoFam (d : D) : Prop := d = .non ∨ d = .str "bits" ∨ d = .int 0 ∨ d = .str ""
theorem fam_f {d : D} {c : Cs} (h : NoFam d) : F_is_family K [d] c = .ok (.bl false) c := by
  rcases h with rfl | rfl | rfl | rfl <;> kernel_rfl
abbrev badD (K : PySem.W.Frag) (nm : Str) : Exc := ⟨CB K, [("name", .str nm)]⟩
theorem letters_ok {y : Ky} {c : Cs} (hc : hasTab c 0 (tb K 0) "is_word.<locals>.<genexpr>" = true) (h : y.Ok) : F_letters_of K [.str y.fam, y.dat] c = .ok (.tup (nats y.lts)) c := by
  simp [F_letters_of, mkF, startD, b_letters_of, sSeq, sDrop, sRet, eCall, aCons, aNil, eVar, eC, fam_t, key_t hc h, check_t, row_ok h, Res.toS, SR.bind, fin]
theorem letters_f {d e : D} {c : Cs} (h : NoFam d) : F_letters_of K [d, e] c = .err (badD K "family") c := by
  have hn : (Str.ofString "family").length ≤ 100000 := by decide +kernel
  simp [F_letters_of, mkF, startD, b_letters_of, sSeq, sDrop, sRet, eCall, aCons, aNil, eVar, eC, fam_f h, check_f hn, Res.toS, SR.bind, fin]
theorem bits_ok {y : Ky} {c : Cs} (hc : hasTab c 0 (tb K 0) "is_word.<locals>.<genexpr>" = true) (h : y.Ok) : F_bits_of K [.str y.fam, y.dat] c = .ok (.tup (nats (bts y.wid y.lts))) (c ++ [.lst (nats (bts y.wid y.lts))]) := by
  simp [F_bits_of, mkF, startD, b_bits_of, sSeq, sDrop, sRet, eCall, aCons, aNil, eVar, eC, fam_t, key_t hc h, check_t, bits_in_ok h, Res.toS, SR.bind, fin]
theorem bits_f {y : Ky} {d : D} {c : Cs} (hc : hasTab c 0 (tb K 0) "is_word.<locals>.<genexpr>" = true) (h : Wrong d) : F_bits_of K [.str y.fam, d] c = .err (badD K "key") c := by
  have hn : (Str.ofString "key").length ≤ 100000 := by decide +kernel
  simp [F_bits_of, mkF, startD, b_bits_of, sSeq, sDrop, sRet, eCall, aCons, aNil, eVar, eC, fam_t, key_f hc h, check_t, check_f hn, Res.toS, SR.bind, fin]
theorem unlike_f1 {y : Ky} {d e : D} {c : Cs} (hc : hasTab c 0 (tb K 0) "is_word.<locals>.<genexpr>" = true) (h : Wrong d) : F_first_unlike K [.str y.fam, d, e] c = .err (badD K "one") c := by
  have hn : (Str.ofString "one").length ≤ 100000 := by decide +kernel
  simp [F_first_unlike, mkF, startD, b_first_unlike, sSeq, sDrop, sRet, eCall, aCons, aNil, eVar, eC, fam_t, key_f hc h, check_t, check_f hn, Res.toS, SR.bind, fin]
theorem unlike_f2 {y : Ky} {d : D} {c : Cs} (hc : hasTab c 0 (tb K 0) "is_word.<locals>.<genexpr>" = true) (hy : y.Ok) (h : Wrong d) : F_first_unlike K [.str y.fam, y.dat, d] c = .err (badD K "other") c := by
  have hn : (Str.ofString "other").length ≤ 100000 := by decide +kernel
  simp [F_first_unlike, mkF, startD, b_first_unlike, sSeq, sDrop, sRet, eCall, aCons, aNil, eVar, eC, fam_t, key_t hc hy, key_f hc h, check_t, check_f hn, Res.toS, SR.bind, fin]
end K01

set_option Elab.async false
set_option linter.all false
set_option maxRecDepth 100000
set_option maxHeartbeats 4000000
/-! ## the plain law of k01: order, the first place where bits part -/
namespace K01
open PySem PySem.Spec PyProof.Rows L2 RL
variable {K : PySem.W.Frag}
/-- which is less at the first place where both part -/
def forkB : List Nat → List Nat → Option Bool
  | x :: l, y :: m => if x = y then forkB l m else some (decide (x < y))
  | _, _ => none
theorem fork_pre : ∀ (p l m : List Nat), forkB (p ++ l) (p ++ m) = forkB l m
  | [], _, _ => rfl
  | x :: p, l, m => by
    have ih := fork_pre p l m
    simp [forkB, ih]
theorem fork_app : ∀ {l m x y : List Nat} {t : Bool}, forkB l m = some t → forkB (l ++ x) (m ++ y) = some t
  | [], _, _, _, _, h => by simp [forkB] at h
  | _ :: _, [], _, _, _, h => by simp [forkB] at h
  | a :: l, b :: m, x, y, t, h => by
    simp only [forkB, List.cons_append] at h ⊢
    split
    · rename_i e
      rw [if_pos e] at h
      exact fork_app h
    · rename_i e
      rw [if_neg e] at h
      exact h
theorem fork_bit {w a b : Nat} (hw : w = 4 ∨ w = 5) (ha : a < 2 ^ w) (hb : b < 2 ^ w) (hn : a ≠ b) : forkB (bitsN w a) (bitsN w b) = some (decide (a < b)) := by
  rcases hw with rfl | rfl
  · have h : ∀ a : Fin 16, ∀ b : Fin 16, a.val ≠ b.val → forkB (bitsN 4 a.val) (bitsN 4 b.val) = some (decide (a.val < b.val)) := by decide +kernel
    exact h ⟨a, ha⟩ ⟨b, hb⟩ hn
  · have h : ∀ a : Fin 32, ∀ b : Fin 32, a.val ≠ b.val → forkB (bitsN 5 a.val) (bitsN 5 b.val) = some (decide (a.val < b.val)) := by decide +kernel
    exact h ⟨a, ha⟩ ⟨b, hb⟩ hn
theorem fork_bts {w : Nat} (hw : w = 4 ∨ w = 5) : ∀ {l m : List Nat} {t : Bool}, (∀ n ∈ l, n < 2 ^ w) → (∀ n ∈ m, n < 2 ^ w) → forkB l m = some t → forkB (bts w l) (bts w m) = some t
  | [], _, _, _, _, h => by simp [forkB] at h
  | _ :: _, [], _, _, _, h => by simp [forkB] at h
  | a :: l, b :: m, t, hl, hm, h => by
    have ea : bts w (a :: l) = bitsN w a ++ bts w l := by simp [bts]
    have eb : bts w (b :: m) = bitsN w b ++ bts w m := by simp [bts]
    rw [ea, eb]
    simp only [forkB] at h
    by_cases e : a = b
    · rw [if_pos e] at h
      subst e
      rw [fork_pre]
      exact fork_bts hw (fun n hn => hl n (List.mem_cons_of_mem _ hn)) (fun n hn => hm n (List.mem_cons_of_mem _ hn)) h
    · rw [if_neg e] at h
      rw [← h]
      exact fork_app (fork_bit hw (hl a List.mem_cons_self) (hm b List.mem_cons_self) e)
def ltK : Ky → Ky → Bool
  | .num a, .num b => decide (a < b)
  | .wrd a, .wrd b => decide (a < b)
  | _, _ => false
theorem fork_wrd : ∀ {a b : List Nat}, (∀ k ∈ a, 97 ≤ k ∧ k ≤ 122) → (∀ k ∈ b, 97 ≤ k ∧ k ≤ 122) → a ≠ b → forkB (a.map (· - 96) ++ [0]) (b.map (· - 96) ++ [0]) = some (decide (a < b))
  | [], [], _, _, h => (h rfl).elim
  | [], y :: b, _, hb, _ => by
    have := hb y List.mem_cons_self
    have e : (0 : Nat) ≠ y - 96 := by omega
    have e2 : 0 < y - 96 := by omega
    simp [forkB, e, e2]
  | x :: a, [], ha, _, _ => by
    have := ha x List.mem_cons_self
    have e : x - 96 ≠ 0 := by omega
    simp [forkB, e]
  | x :: a, y :: b, ha, hb, h => by
    have h1 := ha x List.mem_cons_self
    have h2 := hb y List.mem_cons_self
    by_cases e : x = y
    · subst e
      have ih := fork_wrd (a := a) (b := b) (fun k hk => ha k (List.mem_cons_of_mem _ hk)) (fun k hk => hb k (List.mem_cons_of_mem _ hk)) (fun q => h (by rw [q]))
      simp [forkB, ih]
    · have e1 : x - 96 ≠ y - 96 := by omega
      have e2 : decide (x - 96 < y - 96) = decide (x < y) := by
        rw [decide_eq_decide]; omega
      have e3 : (x :: a < y :: b) ↔ x < y := by
        rw [List.cons_lt_cons_iff]
        exact ⟨fun q => q.elim id (fun q => (e q.1).elim), .inl⟩
      simp [forkB, e1, e, e2, e3]
theorem fork_num {a b : Nat} (ha : a < 65536) (hb : b < 65536) (h : a ≠ b) : forkB (Ky.num a).lts (Ky.num b).lts = some (decide (a < b)) := by
  simp only [Ky.lts, forkB]
  split
  · split
    · split
      · split
        · omega
        · simp; omega
      · simp; omega
    · simp; omega
  · simp; omega
theorem fork_ky {y z : Ky} (hy : y.Ok) (hz : z.Ok) (hf : y.fam = z.fam) (h : y ≠ z) : forkB (bts y.wid y.lts) (bts z.wid z.lts) = some (ltK y z) := by
  have nw : Str.ofString "numbers" ≠ Str.ofString "words" := by decide +kernel
  cases y with
  | num a =>
    cases z with
    | num b => exact fork_bts (.inl rfl) (Ky.lts_lt hy) (Ky.lts_lt hz) (fork_num hy hz (fun e => h (by rw [e])))
    | wrd b => exact (nw hf).elim
  | wrd a =>
    cases z with
    | num b => exact (nw hf.symm).elim
    | wrd b => exact fork_bts (.inr rfl) (Ky.lts_lt hy) (Ky.lts_lt hz) (fork_wrd (Wd.al hy) (Wd.al hz) (fun e => h (by rw [e])))
theorem strOk_w {w : List Nat} (h : ∀ k ∈ w, 97 ≤ k ∧ k ≤ 122) : PyData.strOk (SX.S w) = true := by
  unfold PyData.strOk
  rw [Array.all_eq_true']
  intro k hk
  have := h k (by simpa using hk)
  simp; omega
theorem eq_dat {y z : Ky} {c : Cs} (hy : y.Ok) (hz : z.Ok) (hf : y.fam = z.fam) : oEq y.dat z.dat c = .ok (.bl (decide (y = z))) c := by
  have nw : Str.ofString "numbers" ≠ Str.ofString "words" := by decide +kernel
  cases y with
  | num a =>
    cases z with
    | num b =>
      have e : ((a : Int) == (b : Int)) = decide (a = b) := by
        rw [Bool.eq_iff_iff]; simp; omega
      simp [Ky.dat, eq_int, e]
    | wrd b => exact (nw hf).elim
  | wrd a =>
    cases z with
    | num b => exact (nw hf.symm).elim
    | wrd b =>
      simp only [Ky.dat]
      rw [eq_str (strOk_w (Wd.al hy)) (strOk_w (Wd.al hz)), SX.S_beq_eq]
      simp
theorem lt_dat {y z : Ky} {c : Cs} (hf : y.fam = z.fam) : oLt y.dat z.dat c = .ok (.bl (ltK y z)) c := by
  have nw : Str.ofString "numbers" ≠ Str.ofString "words" := by decide +kernel
  cases y with
  | num a =>
    cases z with
    | num b => simp [Ky.dat, oLt, ltK]
    | wrd b => exact (nw hf).elim
  | wrd a =>
    cases z with
    | num b => exact (nw hf.symm).elim
    | wrd b => simp [Ky.dat, oLt, ltK]
theorem intsOf_nats : ∀ l : List Nat, intsOf (nats l) = some (l.map fun n : Nat => (n : Int))
  | [] => rfl
  | n :: l => by
    have ih := intsOf_nats l
    simp only [nats] at ih ⊢
    simp [intsOf, ih]
theorem lex_fork : ∀ {l m : List Nat} {t : Bool}, forkB l m = some t → HT.lexLt (l.map fun n : Nat => (n : Int)) (m.map fun n : Nat => (n : Int)) = t
  | [], _, _, h => by simp [forkB] at h
  | _ :: _, [], _, h => by simp [forkB] at h
  | a :: l, b :: m, t, h => by
    simp only [forkB] at h
    simp only [List.map_cons, HT.lexLt_cons]
    by_cases e : a = b
    · rw [if_pos e] at h
      subst e
      rw [if_pos rfl]
      exact lex_fork h
    · rw [if_neg e] at h
      rw [if_neg (by omega)]
      cases h
      simp
theorem lex_same : ∀ l : List Int, HT.lexLt l l = false
  | [] => rfl
  | a :: l => by rw [HT.lexLt_cons, if_pos rfl]; exact lex_same l
theorem ltK_self (y : Ky) : ltK y y = false := by
  cases y with
  | num a => simp [ltK]
  | wrd a => simp [ltK, List.lt_irrefl]
theorem lt_bits {y z : Ky} {c : Cs} (hy : y.Ok) (hz : z.Ok) (hf : y.fam = z.fam) : oLt (.tup (nats (bts y.wid y.lts))) (.tup (nats (bts z.wid z.lts))) c = .ok (.bl (ltK y z)) c := by
  simp only [oLt, intsOf_nats]
  by_cases e : y = z
  · subst e
    rw [lex_same, ltK_self]
  · rw [lex_fork (fork_ky hy hz hf e)]
end K01

set_option Elab.async false
set_option linter.all false
set_option maxRecDepth 100000
set_option maxHeartbeats 4000000
/-! ## the plain law of k01: the first unlike place; alike -/
namespace K01
open PySem PySem.Spec PyProof.Rows L2 RL
variable {K : PySem.W.Frag}
structure Place (l m : List Nat) (i : Nat) : Prop where
  lo : i < l.length
  hi : i < m.length
  same : ∀ j, j < i → l[j]? = m[j]?
  part : l[i]? ≠ m[i]?
theorem fork_place : ∀ {l m : List Nat} {t : Bool}, forkB l m = some t → ∃ i, Place l m i
  | [], _, _, h => by simp [forkB] at h
  | _ :: _, [], _, h => by simp [forkB] at h
  | a :: l, b :: m, t, h => by
    simp only [forkB] at h
    by_cases e : a = b
    · rw [if_pos e] at h
      subst e
      obtain ⟨i, h1, h2, h3, h4⟩ := fork_place h
      refine ⟨i + 1, by simpa using h1, by simpa using h2, fun j hj => ?_, by simpa using h4⟩
      cases j with
      | zero => rfl
      | succ j => simpa using h3 j (by omega)
    · exact ⟨0, by simp, by simp, fun j hj => by omega, by simpa using e⟩
theorem ix_nats {l : List Nat} {j : Nat} {c : Cs} (h : j < l.length) : oIx (.tup (nats l)) (.int (j : Nat)) c = .ok (.int ((l[j] : Nat) : Int)) c := by
  have e := atI_nat (xs := nats l) (n := j) (by rw [nats_len]; exact h)
  simp only [oIx, seqOf, e]
  simp [nats]
theorem unlike_loop {l m : List Nat} {i : Nat} {c : Cs} (p : Place l m i) : ∀ (n j : Nat), j ≤ i → i - j < n →
    loopW (tsE (eOp oEq (eOp oIx (eVar 0) (eVar 2)) (eOp oIx (eVar 1) (eVar 2)))) (sAug 2 (eC (.int 1))) n [some (.tup (nats l)), some (.tup (nats m)), some (.int (j : Nat))] c = .nx [some (.tup (nats l)), some (.tup (nats m)), some (.int (i : Nat))] c
  | 0, j, _, h => by omega
  | n + 1, j, hj, h => by
    have h1 : j < l.length := by have := p.lo; omega
    have h2 : j < m.length := by have := p.hi; omega
    have e1 := ix_nats (c := c) h1
    have e2 := ix_nats (c := c) h2
    by_cases e : j = i
    · subst e
      have hn : l[j] ≠ m[j] := fun q => p.part (by rw [List.getElem?_eq_getElem h1, List.getElem?_eq_getElem h2, q])
      have hn2 : ((l[j] : Nat) : Int) ≠ ((m[j] : Nat) : Int) := by omega
      simp [loopW, tsE, eOp, eVar, e1, e2, eq_int, Res.toS, hn2, hn]
    · have hs : l[j] = m[j] := by
        have := p.same j (by omega)
        rw [List.getElem?_eq_getElem h1, List.getElem?_eq_getElem h2] at this
        exact Option.some.inj this
      have ih := unlike_loop (c := c) p n (j + 1) (by omega) (by omega)
      have ec : ((j + 1 : Nat) : Int) = (j : Int) + 1 := by omega
      rw [ec] at ih
      simp [loopW, tsE, eOp, eVar, e1, e2, eq_int, Res.toS, hs, sAug, eC, ih]
theorem unlike_ok {l m : List Nat} {i : Nat} {c : Cs} (p : Place l m i) (h : i < 200) : F_unlike_place K [.tup (nats l), .tup (nats m)] c = .ok (.int (i : Nat)) c := by
  have e := unlike_loop (c := c) p 200 0 (Nat.zero_le _) (by omega)
  have e' : loopW (tsE (eOp oEq (eOp oIx (eVar 0) (eVar 2)) (eOp oIx (eVar 1) (eVar 2)))) (sAug 2 (eC (.int 1))) 200 [some (.tup (nats l)), some (.tup (nats m)), some (.int 0)] c = .nx [some (.tup (nats l)), some (.tup (nats m)), some (.int (i : Nat))] c := e
  simp [F_unlike_place, mkF, startD, b_unlike_place, sSeq, sAsg, eC, gtName, Res.toS, SR.bind]
  rw [e']
  simp [sRet, eVar, Res.toS, fin]
theorem Ky.bts_len {y : Ky} (h : y.Ok) : (bts y.wid y.lts).length ≤ 65 := by
  have hl := Ky.lts_len h
  rw [K01.bts_len]
  rcases y.wid_of with e | e <;> rw [e] <;> omega
def unD (y z : Ky) (i : Nat) : D := if y = z then .non else .int (i : Nat)
theorem first_ok {y z : Ky} {c : Cs} (hc : hasTab c 0 (tb K 0) "is_word.<locals>.<genexpr>" = true) (hy : y.Ok) (hz : z.Ok) (hf : y.fam = z.fam) {i : Nat} (p : y ≠ z → Place (bts y.wid y.lts) (bts z.wid z.lts) i) :
    ∃ x, F_first_unlike K [.str y.fam, y.dat, z.dat] c = .ok (unD y z i) (c ++ x) := by
  have kz : F_is_key K [.str y.fam, z.dat] c = .ok (.bl true) c := by rw [hf]; exact key_t hc hz
  have bz : ∀ c, F_bits_in K [.str y.fam, z.dat] c = .ok (.tup (nats (bts z.wid z.lts))) (c ++ [.lst (nats (bts z.wid z.lts))]) := fun c => by rw [hf]; exact bits_in_ok hz
  have ee : ∀ s : Sl, s[1]? = some (some y.dat) → s[2]? = some (some z.dat) → tsE (eOp oEq (eVar 1) (eVar 2)) s c = .ok (decide (y = z)) c := fun s h1 h2 => by
    simp only [tsE, eOp, eVar, h1, h2, Res.bind_ok, eq_dat hy hz hf]
  by_cases e : y = z
  · refine ⟨[], ?_⟩
    subst e
    simp [F_first_unlike, mkF, startD, b_first_unlike, sSeq, sDrop, sRet, eCall, aCons, aNil, eVar, eC, fam_t, key_t hc hy, check_t, Res.toS, SR.bind, eIf, tsE, eOp, eq_dat hy hy rfl, fin, unD]
  · have hp := p e
    have hi : i < 200 := by have := hp.lo; have := Ky.bts_len hy; omega
    refine ⟨[.lst (nats (bts y.wid y.lts)), .lst (nats (bts z.wid z.lts))], ?_⟩
    simp [F_first_unlike, mkF, startD, b_first_unlike, sSeq, sDrop, sRet, eCall, aCons, aNil, eVar, eC, fam_t, key_t hc hy, kz, check_t, Res.toS, SR.bind, eIf, tsE, eOp, eq_dat hy hz hf, e, fin, unD, bits_in_ok hy, bz, unlike_ok hp hi]
/-! places of the law -/
def unQ (l m : List Nat) : D → Bool := fun d => match d with | .int i => decide (l[i.toNat]? ≠ m[i.toNat]?) | _ => false
theorem rng0 (n : Nat) : rngC 0 1 n = (List.range n).map fun k : Nat => D.int (k : Int) := by simp [rngC]
theorem unQ_at {l m : List Nat} {k : Nat} (h1 : k < l.length) (h2 : k < m.length) : (!(((l[k] : Nat) : Int) == ((m[k] : Nat) : Int))) = unQ l m (.int (k : Int)) := by
  simp only [unQ, Int.toNat_natCast, List.getElem?_eq_getElem h1, List.getElem?_eq_getElem h2]
  rw [Bool.eq_iff_iff]; simp; omega
theorem places_pick {l m : List Nat} {a0 a1 a2 a3 a4 a5 : Option D} {c : Cs} {n : Nat} (hl : n ≤ l.length) (hm : n ≤ m.length) (hn : n ≤ 1000) :
    compL (.nm 8) (tsE (eOp oNe (eOp oIx (eVar 6) (eVar 8)) (eOp oIx (eVar 7) (eVar 8)))) (eVar 8) [a0, a1, a2, a3, a4, a5, some (.tup (nats l)), some (.tup (nats m)), none] (rngC 0 1 n) [] c = .ok ((rngC 0 1 n).filter (unQ l m)) c := by
  have e := compL_pick (j := 8) (p := tsE (eOp oNe (eOp oIx (eVar 6) (eVar 8)) (eOp oIx (eVar 7) (eVar 8)))) (f := eVar 8) (s0 := [a0, a1, a2, a3, a4, a5, some (.tup (nats l)), some (.tup (nats m)), none]) (q := unQ l m) (g := id) (c := c) (ds := rngC 0 1 n) (acc := [])
    (by rw [rngC_len]; simp; omega) (fun d hd => by
      rw [rng0] at hd
      obtain ⟨k, hk, rfl⟩ := List.mem_map.mp hd
      have hk2 : k < n := List.mem_range.mp hk
      have h1 : k < l.length := by omega
      have h2 : k < m.length := by omega
      have e1 := ix_nats (c := c) h1
      have e2 := ix_nats (c := c) h2
      have e3 := unQ_at h1 h2
      simp only [tsE, eOp, eVar, List.set_cons_succ, List.set_cons_zero, List.getElem?_cons_succ, List.getElem?_cons_zero, Res.bind_ok, e1, e2, ne_int, e3]) (fun d _ _ => by simp [eVar])
  rw [e]; simp
theorem places_head {l m : List Nat} {i n : Nat} (p : Place l m i) (h : i < n) {c : Cs} : oIx (.lst ((rngC 0 1 n).filter (unQ l m))) (.int 0) c = .ok (.int (i : Nat)) c := by
  have hh : ((rngC 0 1 n).filter (unQ l m)).head? = some (.int (i : Nat)) := by
    rw [rng0, List.filter_map, List.head?_map, List.head?_filter]
    have : (List.range n).find? (unQ l m ∘ fun k : Nat => D.int (k : Int)) = some i := by
      rw [List.find?_range_eq_some]
      refine ⟨?_, ?_, fun j hj => ?_⟩
      · have := p.part
        simpa [unQ] using this
      · exact List.mem_range.mpr h
      · have := p.same j hj
        simpa [unQ] using this
    rw [this]; rfl
  cases ef : (rngC 0 1 n).filter (unQ l m) with
  | nil => rw [ef] at hh; cases hh
  | cons d r =>
    rw [ef] at hh
    cases hh
    have e0 : atI (D.int (i : Nat) :: r) 0 = some (D.int (i : Nat)) := atI_nat (xs := D.int (i : Nat) :: r) (n := 0) (by simp)
    simp only [oIx, seqOf, e0]
theorem rng1_nat {f : FA} {s : Sl} {c c1 : Cs} {i : Int} {n : Nat} (hi : i = (n : Int)) (h : f s c = .ok [.int i] c1) (hn : n ≤ 1000000) : fRng1 f s c = .ok (rngC 0 1 n) c1 := by
  have h0 : (0 : Int) ≤ i := by omega
  have h1 : i ≤ 1000000 := by omega
  have hb : -(2 ^ 62) ≤ i ∧ i < 2 ^ 62 := by omega
  have e : i.toNat = n := by omega
  simp only [fRng1, h, Res.bind_ok, if_pos hb, e]
theorem min_nat {a b : Nat} : (if (b : Int) < (a : Int) then (b : Int) else (a : Int)) = ((min a b : Nat) : Int) := by
  by_cases h : b < a
  · rw [if_pos (by omega), Nat.min_eq_right (by omega)]
  · rw [if_neg (by omega), Nat.min_eq_left (by omega)]
theorem places_src {l m : List Nat} {a0 a1 a2 a3 a4 a5 a8 : Option D} {c : Cs} (hl : l.length ≤ 1000) (hm : m.length ≤ 1000) :
    fRng1 (aCons (eCall fMin (aCons (eCall fLen (aCons (eVar 6) aNil)) (aCons (eCall fLen (aCons (eVar 7) aNil)) aNil))) aNil) [a0, a1, a2, a3, a4, a5, some (.tup (nats l)), some (.tup (nats m)), a8] c = .ok (rngC 0 1 (min l.length m.length)) c := by
  refine rng1_nat min_nat ?_ (by omega)
  show Res.ok [D.int (if ((nats m).length : Int) < ((nats l).length : Int) then ((nats m).length : Int) else ((nats l).length : Int))] c = _
  rw [nats_len, nats_len]
theorem places_ok {l m : List Nat} {a0 a1 a2 a3 a4 a5 a8 : Option D} {c : Cs} (hl : l.length ≤ 1000) (hm : m.length ≤ 1000) : ∃ P,
    eComp (fRng1 (aCons (eCall fMin (aCons (eCall fLen (aCons (eVar 6) aNil)) (aCons (eCall fLen (aCons (eVar 7) aNil)) aNil))) aNil)) (.nm 8) (tsE (eOp oNe (eOp oIx (eVar 6) (eVar 8)) (eOp oIx (eVar 7) (eVar 8)))) (eVar 8) [8]
      [a0, a1, a2, a3, a4, a5, some (.tup (nats l)), some (.tup (nats m)), a8] c = .ok (.lst P) c ∧ ∀ i c, Place l m i → oIx (.lst P) (.int 0) c = .ok (.int (i : Nat)) c := by
  refine ⟨(rngC 0 1 (min l.length m.length)).filter (unQ l m), ?_, fun i c p => places_head p (by have := p.lo; have := p.hi; omega)⟩
  have e := places_pick (l := l) (m := m) (a0 := a0) (a1 := a1) (a2 := a2) (a3 := a3) (a4 := a4) (a5 := a5) (c := c) (n := min l.length m.length) (by omega) (by omega) (by omega)
  simp only [eComp, places_src hl hm, Res.bind_ok, wipeD, List.set_cons_succ, List.set_cons_zero, e]
end K01

set_option Elab.async false
set_option linter.all false
set_option maxRecDepth 100000
set_option maxHeartbeats 4000000
/-! ## the plain law of k01: alike of one thing with itself -/
namespace K01
open PySem PySem.Spec PyProof.Rows L2 RL
variable {K : PySem.W.Frag}
/-- plain data of this depth at most -/
inductive Pl : Nat → D → Prop
  | non {n} : Pl (n + 1) .non
  | bl {n b} : Pl (n + 1) (.bl b)
  | int {n i} : Pl (n + 1) (.int i)
  | str {n x} (h : PyData.strOk x = true) : Pl (n + 1) (.str x)
  | tup {n l} (h : l.length ≤ 100000) (h2 : ∀ x ∈ l, Pl n x) : Pl (n + 1) (.tup l)
  | lst {n l} (h : l.length ≤ 100000) (h2 : ∀ x ∈ l, Pl n x) : Pl (n + 1) (.lst l)
theorem eq_nil {c : Cs} : oEq (.lst []) (.lst []) c = .ok (.bl true) c := by kernel_rfl
theorem eq_non {c : Cs} : oEq .non .non c = .ok (.bl true) c := by kernel_rfl
theorem sSeq_rt {f g : FS} {s : Sl} {c c1 : Cs} {d : D} (h : f s c = .rt d c1) : sSeq f g s c = .rt d c1 := by
  unfold sSeq; rw [h]; rfl
theorem sSeq_nx {f g : FS} {s s1 : Sl} {c c1 : Cs} (h : f s c = .nx s1 c1) : sSeq f g s c = g s1 c1 := by
  unfold sSeq; rw [h]; rfl
theorem sIf_t {p : FT} {f g : FS} {s : Sl} {c c1 : Cs} (h : p s c = .ok true c1) : sIf p f g s c = f s c1 := by
  unfold sIf; rw [h]; rfl
theorem sIf_f {p : FT} {f g : FS} {s : Sl} {c c1 : Cs} (h : p s c = .ok false c1) : sIf p f g s c = g s c1 := by
  unfold sIf; rw [h]; rfl
theorem sIf_fn {p : FT} {f : FS} {s : Sl} {c c1 : Cs} (h : p s c = .ok false c1) : sIf p f sNext s c = .nx s c1 := by
  unfold sIf; rw [h]; rfl
theorem sRet_ok {f : FE} {s : Sl} {c c1 : Cs} {d : D} (h : f s c = .ok d c1) : sRet f s c = .rt d c1 := by
  unfold sRet; rw [h]; rfl
theorem tsOr_ff {p q : FT} {s : Sl} {c c1 c2 : Cs} (h : p s c = .ok false c1) (h2 : q s c1 = .ok false c2) : tsOr p q s c = .ok false c2 := by
  unfold tsOr; rw [h]; exact h2
theorem tsNot_t {p : FT} {s : Sl} {c c1 : Cs} (h : p s c = .ok true c1) : tsNot p s c = .ok false c1 := by
  unfold tsNot; rw [h]; rfl
theorem eLst_nil {s : Sl} {c : Cs} : eLst aNil s c = .ok (.lst []) c := by
  simp [eLst, aNil]
theorem alike_comp {R : FN} {d : D} {l : List D} {c : Cs} {a3 : Option D} (hd : seqOf c d = some l) (ht : ∀ x, d ≠ .str x) (hl : l.length ≤ 100000) (ih : ∀ x ∈ l, R [x, x] c = .ok (.bl true) c) :
    eComp (fRng1 (aCons (eCall fLen (aCons (eVar 1) aNil)) aNil)) (.nm 2) (tsNot (tsE (eCall R (aCons (eOp oIx (eVar 0) (eVar 2)) (aCons (eOp oIx (eVar 1) (eVar 2)) aNil))))) (eVar 2) [2] [some d, some d, none, a3] c = .ok (.lst []) c := by
  have hlen : fLen [d] c = .ok (.int (l.length : Int)) c := by
    cases d with
    | str x => exact (ht x rfl).elim
    | _ => simp only [fLen, hd]
  have hs := rng1_nat (f := aCons (eCall fLen (aCons (eVar 1) aNil)) aNil) (s := [some d, some d, none, a3]) (c := c) (c1 := c) (n := l.length) rfl (by
    show Res.bind (fLen [d] c) _ = _
    rw [hlen]; rfl) (by omega)
  have hix : ∀ k : Nat, (h : k < l.length) → oIx d (.int (k : Int)) c = .ok l[k] c := fun k h => by
    have e := atI_nat (xs := l) h
    cases d with
    | str x => exact (ht x rfl).elim
    | _ => simp only [oIx, hd, e]
  have e := compL_pick (j := 2) (p := tsNot (tsE (eCall R (aCons (eOp oIx (eVar 0) (eVar 2)) (aCons (eOp oIx (eVar 1) (eVar 2)) aNil))))) (f := eVar 2) (s0 := [some d, some d, none, a3]) (q := fun _ => false) (g := id) (c := c) (ds := rngC 0 1 l.length) (acc := [])
    (by rw [rngC_len]; simpa using hl) (fun x hx => by
      rw [rng0] at hx
      obtain ⟨k, hk, rfl⟩ := List.mem_map.mp hx
      have hk2 : k < l.length := List.mem_range.mp hk
      have e1 := hix k hk2
      have e2 := ih l[k] (List.getElem_mem hk2)
      simp [tsNot, tsE, eCall, aCons, aNil, eOp, eVar, e1, e2]) (fun d _ h => by cases h)
  simp only [eComp, hs, Res.bind_ok, wipeD, List.set_cons_succ, List.set_cons_zero, e]
  simp
theorem alike_non {R : FN} {c : Cs} : mkF 2 4 (b__law_alike K R) [.non, .non] c = .ok (.bl true) c := by
  simp [mkF, startD, b__law_alike, sSeq, sIf, tsE, tsOr, tsNot, eIsi, eVar, eC, isiD, tyName, kt_NoneType_tl, kt_NoneType_dict, kt_NoneType_str, eOp, oIsN, sRet, eAnd, eq_non, eq_bl, Res.toS, SR.bind, sNext, fin]
theorem alike_bl {R : FN} {c : Cs} {b : Bool} : mkF 2 4 (b__law_alike K R) [.bl b, .bl b] c = .ok (.bl true) c := by
  simp [mkF, startD, b__law_alike, sSeq, sIf, tsE, tsOr, tsNot, eIsi, eVar, eC, isiD, tyName, kt_bool_tl, kt_bool_dict, kt_bool_str, kt_bool_int, kt_bool_bool, eOp, oIsN, sRet, eAnd, eq_bl, Res.toS, SR.bind, sNext, fin]
theorem alike_int {R : FN} {c : Cs} {i : Int} : mkF 2 4 (b__law_alike K R) [.int i, .int i] c = .ok (.bl true) c := by
  simp [mkF, startD, b__law_alike, sSeq, sIf, tsE, tsOr, tsNot, eIsi, eVar, eC, isiD, tyName, kt_int_tl, kt_int_dict, kt_int_str, kt_int_int, kt_int_bool, eOp, oIsN, sRet, eAnd, eq_bl, eq_int, Res.toS, SR.bind, sNext, fin]
theorem alike_str {R : FN} {c : Cs} {x : Str} (h1 : PyData.strOk x = true) : mkF 2 4 (b__law_alike K R) [.str x, .str x] c = .ok (.bl true) c := by
  simp [mkF, startD, b__law_alike, sSeq, sIf, tsE, tsOr, tsNot, eIsi, eVar, eC, isiD, tyName, kt_str_tl, kt_str_dict, kt_str_str, kt_str_int, kt_str_bool, eOp, oIsN, sRet, eAnd, eq_bl, eq_str h1 h1, Res.toS, SR.bind, sNext, fin]
theorem tup_er {R : FN} {c : Cs} {l : List D} (h1 : l.length ≤ 100000) (ih : ∀ x ∈ l, R [x, x] c = .ok (.bl true) c) : eOp oEq (eComp (fRng1 (aCons (eCall fLen (aCons (eVar 1) aNil)) aNil)) (.nm 2) (tsNot (tsE (eCall R (aCons (eOp oIx (eVar 0) (eVar 2)) (aCons (eOp oIx (eVar 1) (eVar 2)) aNil))))) (eVar 2) [2]) (eLst aNil) [some (.tup l), some (.tup l), none, none] c = .ok (.bl true) c := by
  have ec := alike_comp (R := R) (d := .tup l) (l := l) (c := c) (a3 := none) rfl (fun x q => by cases q) h1 ih
  rw [eOp, ec, Res.bind_ok, eLst_nil, Res.bind_ok, eq_nil]
theorem tup_el {c : Cs} {l : List D} : eOp oNe (eCall fLen (aCons (eVar 0) aNil)) (eCall fLen (aCons (eVar 1) aNil)) [some (.tup l), some (.tup l), none, none] c = .ok (.bl false) c := by
  have : eOp oNe (eCall fLen (aCons (eVar 0) aNil)) (eCall fLen (aCons (eVar 1) aNil)) [some (.tup l), some (.tup l), none, none] c = oNe (.int (l.length : Int)) (.int (l.length : Int)) c := by
    simp only [eOp, eCall, aCons, aNil, eVar, List.getElem?_cons_zero, List.getElem?_cons_succ, Res.bind_ok, fLen, seqOf]
  rw [this, ne_int]
  simp
theorem tup_e0 {c : Cs} {l : List D} {T : List String} {b : Bool} (hT : kitBs "tuple" T = some b) : eIsi (eVar 0) T [some (.tup l), some (.tup l), none, none] c = .ok (.bl b) c := by
  simp only [eIsi, eVar, List.getElem?_cons_zero, List.getElem?_cons_succ, Res.bind_ok, isiD, tyName, Option.bind_some, hT]
theorem tup_e1 {c : Cs} {l : List D} {T : List String} {b : Bool} (hT : kitBs "tuple" T = some b) : eIsi (eVar 1) T [some (.tup l), some (.tup l), none, none] c = .ok (.bl b) c := by
  simp only [eIsi, eVar, List.getElem?_cons_zero, List.getElem?_cons_succ, Res.bind_ok, isiD, tyName, Option.bind_some, hT]
theorem tup_e5 {c : Cs} {l : List D} : eOp oNe (eIsi (eVar 0) ["list"]) (eIsi (eVar 1) ["list"]) [some (.tup l), some (.tup l), none, none] c = .ok (.bl false) c := by
  rw [eOp, tup_e0 kt_tuple_list, Res.bind_ok, tup_e1 kt_tuple_list, Res.bind_ok, ne_bl]
  simp
theorem alike_tup {R : FN} {c : Cs} {l : List D} (h1 : l.length ≤ 100000) (ih : ∀ x ∈ l, R [x, x] c = .ok (.bl true) c) : mkF 2 4 (b__law_alike K R) [.tup l, .tup l] c = .ok (.bl true) c := by
  have hst : startD 2 4 [.tup l, .tup l] = [some (.tup l), some (.tup l), none, none] := rfl
  have er := tup_er h1 ih
  have h2 : [D.tup l, D.tup l].length = 2 := rfl
  have t1 : tsE (eIsi (eVar 1) ["tuple", "list"]) [some (.tup l), some (.tup l), none, none] c = .ok true c := by rw [tsE, tup_e1 kt_tuple_tl, Res.bind_ok]
  have t0 : tsE (eIsi (eVar 0) ["tuple", "list"]) [some (.tup l), some (.tup l), none, none] c = .ok true c := by rw [tsE, tup_e0 kt_tuple_tl, Res.bind_ok]
  have t5 : tsE (eOp oNe (eIsi (eVar 0) ["list"]) (eIsi (eVar 1) ["list"])) [some (.tup l), some (.tup l), none, none] c = .ok false c := by rw [tsE, tup_e5, Res.bind_ok]
  have tl : tsE (eOp oNe (eCall fLen (aCons (eVar 0) aNil)) (eCall fLen (aCons (eVar 1) aNil))) [some (.tup l), some (.tup l), none, none] c = .ok false c := by rw [tsE, tup_el, Res.bind_ok]
  unfold mkF
  rw [if_pos h2, hst]
  rw [b__law_alike, sSeq_rt (sIf_t t1 |>.trans ((sSeq_nx (sIf_fn (tsOr_ff (tsNot_t t0) t5))).trans ((sSeq_nx (sIf_fn tl)).trans (sRet_ok er))))]
  rfl
theorem lst_er {R : FN} {c : Cs} {l : List D} (h1 : l.length ≤ 100000) (ih : ∀ x ∈ l, R [x, x] c = .ok (.bl true) c) : eOp oEq (eComp (fRng1 (aCons (eCall fLen (aCons (eVar 1) aNil)) aNil)) (.nm 2) (tsNot (tsE (eCall R (aCons (eOp oIx (eVar 0) (eVar 2)) (aCons (eOp oIx (eVar 1) (eVar 2)) aNil))))) (eVar 2) [2]) (eLst aNil) [some (.lst l), some (.lst l), none, none] c = .ok (.bl true) c := by
  have ec := alike_comp (R := R) (d := .lst l) (l := l) (c := c) (a3 := none) rfl (fun x q => by cases q) h1 ih
  rw [eOp, ec, Res.bind_ok, eLst_nil, Res.bind_ok, eq_nil]
theorem lst_el {c : Cs} {l : List D} : eOp oNe (eCall fLen (aCons (eVar 0) aNil)) (eCall fLen (aCons (eVar 1) aNil)) [some (.lst l), some (.lst l), none, none] c = .ok (.bl false) c := by
  have : eOp oNe (eCall fLen (aCons (eVar 0) aNil)) (eCall fLen (aCons (eVar 1) aNil)) [some (.lst l), some (.lst l), none, none] c = oNe (.int (l.length : Int)) (.int (l.length : Int)) c := by
    simp only [eOp, eCall, aCons, aNil, eVar, List.getElem?_cons_zero, List.getElem?_cons_succ, Res.bind_ok, fLen, seqOf]
  rw [this, ne_int]
  simp
theorem lst_e0 {c : Cs} {l : List D} {T : List String} {b : Bool} (hT : kitBs "list" T = some b) : eIsi (eVar 0) T [some (.lst l), some (.lst l), none, none] c = .ok (.bl b) c := by
  simp only [eIsi, eVar, List.getElem?_cons_zero, List.getElem?_cons_succ, Res.bind_ok, isiD, tyName, Option.bind_some, hT]
theorem lst_e1 {c : Cs} {l : List D} {T : List String} {b : Bool} (hT : kitBs "list" T = some b) : eIsi (eVar 1) T [some (.lst l), some (.lst l), none, none] c = .ok (.bl b) c := by
  simp only [eIsi, eVar, List.getElem?_cons_zero, List.getElem?_cons_succ, Res.bind_ok, isiD, tyName, Option.bind_some, hT]
theorem lst_e5 {c : Cs} {l : List D} : eOp oNe (eIsi (eVar 0) ["list"]) (eIsi (eVar 1) ["list"]) [some (.lst l), some (.lst l), none, none] c = .ok (.bl false) c := by
  rw [eOp, lst_e0 kt_list_list, Res.bind_ok, lst_e1 kt_list_list, Res.bind_ok, ne_bl]
  simp
theorem alike_lst {R : FN} {c : Cs} {l : List D} (h1 : l.length ≤ 100000) (ih : ∀ x ∈ l, R [x, x] c = .ok (.bl true) c) : mkF 2 4 (b__law_alike K R) [.lst l, .lst l] c = .ok (.bl true) c := by
  have hst : startD 2 4 [.lst l, .lst l] = [some (.lst l), some (.lst l), none, none] := rfl
  have er := lst_er h1 ih
  have h2 : [D.lst l, D.lst l].length = 2 := rfl
  have t1 : tsE (eIsi (eVar 1) ["tuple", "list"]) [some (.lst l), some (.lst l), none, none] c = .ok true c := by rw [tsE, lst_e1 kt_list_tl, Res.bind_ok]
  have t0 : tsE (eIsi (eVar 0) ["tuple", "list"]) [some (.lst l), some (.lst l), none, none] c = .ok true c := by rw [tsE, lst_e0 kt_list_tl, Res.bind_ok]
  have t5 : tsE (eOp oNe (eIsi (eVar 0) ["list"]) (eIsi (eVar 1) ["list"])) [some (.lst l), some (.lst l), none, none] c = .ok false c := by rw [tsE, lst_e5, Res.bind_ok]
  have tl : tsE (eOp oNe (eCall fLen (aCons (eVar 0) aNil)) (eCall fLen (aCons (eVar 1) aNil))) [some (.lst l), some (.lst l), none, none] c = .ok false c := by rw [tsE, lst_el, Res.bind_ok]
  unfold mkF
  rw [if_pos h2, hst]
  rw [b__law_alike, sSeq_rt (sIf_t t1 |>.trans ((sSeq_nx (sIf_fn (tsOr_ff (tsNot_t t0) t5))).trans ((sSeq_nx (sIf_fn tl)).trans (sRet_ok er))))]
  rfl
theorem alike_refl : ∀ (n : Nat) (d : D) (c : Cs), Pl n d → F__law_alike K n [d, d] c = .ok (.bl true) c := by
  intro n
  induction n with
  | zero => intro d c h; cases h
  | succ n ih =>
    intro d c h
    show mkF 2 4 (b__law_alike K (F__law_alike K n)) [d, d] c = _
    cases h with
    | non => exact alike_non
    | bl => exact alike_bl
    | int => exact alike_int
    | str h1 => exact alike_str h1
    | tup h1 h2 => exact alike_tup h1 fun x hx => ih x c (h2 x hx)
    | lst h1 h2 => exact alike_lst h1 fun x hx => ih x c (h2 x hx)
theorem Pl.nats {n : Nat} {l : List Nat} (h : l.length ≤ 100000) : Pl (n + 2) (.tup (nats l)) := .tup (by rw [nats_len]; exact h) fun x hx => by
  obtain ⟨k, _, rfl⟩ := List.mem_map.mp hx
  exact .int
theorem Pl.dat {n : Nat} {y : Ky} (h : y.Ok) : Pl (n + 1) y.dat := by
  cases y with
  | num k => exact .int
  | wrd w => exact .str (strOk_w (Wd.al h))
theorem Pl.unD {n : Nat} {y z : Ky} {i : Nat} : Pl (n + 1) (unD y z i) := by
  unfold K01.unD
  split
  · exact .non
  · exact .int
end K01

set_option Elab.async false
set_option linter.all false
set_option maxRecDepth 100000
set_option maxHeartbeats 4000000
/-! ## the plain law of k01: keys back from bits -/
namespace K01
open PySem PySem.Spec PyProof.Rows L2 RL
variable {K : PySem.W.Frag}
theorem sSeq_err {f g : FS} {s s1 : Sl} {c c1 : Cs} {x : Exc} (h : f s c = .err x s1 c1) : sSeq f g s c = .err x s1 c1 := by
  unfold sSeq; rw [h]; rfl
theorem sDrop_ok {f : FE} {s : Sl} {c c1 : Cs} {d : D} (h : f s c = .ok d c1) : sDrop f s c = .nx s c1 := by
  unfold sDrop; rw [h]; rfl
theorem sDrop_err {f : FE} {s : Sl} {c c1 : Cs} {x : Exc} (h : f s c = .err x c1) : sDrop f s c = .err x s c1 := by
  unfold sDrop; rw [h]; rfl
theorem sAsg_nm {f : FE} {i : Nat} {s : Sl} {c c1 : Cs} {d : D} (h : f s c = .ok d c1) : sAsg f (gtName i) s c = .nx (s.set i (some d)) c1 := by
  unfold sAsg; rw [h]; rfl
theorem sFor_ok {f : FA} {g : FG} {b : FS} {s : Sl} {c c1 : Cs} {ds : List D} (h : f s c = .ok ds c1) : sFor f g b s c = loopL g b ds s c1 := by
  unfold sFor; rw [h]; rfl
theorem loopL_nx {g : FG} {b : FS} {d : D} {ds : List D} {s s1 s2 : Sl} {c c1 c2 : Cs} (h1 : g d s c = .nx s1 c1) (h2 : b s1 c1 = .nx s2 c2) : loopL g b (d :: ds) s c = loopL g b ds s2 c2 := by
  simp only [loopL, h1, SR.bind, h2]
theorem rngC_succ {lo st : Int} {n : Nat} : rngC lo st (n + 1) = .int lo :: rngC (lo + st) st n := by
  simp only [rngC, List.range_succ_eq_map, List.map_cons, List.map_map]
  congr 1
  · simp
  · refine List.map_congr_left fun k _ => ?_
    simp only [Function.comp_def, Nat.succ_eq_add_one, D.int.injEq]
    push_cast
    rw [Int.add_mul, Int.one_mul, Int.add_assoc, Int.add_comm st]
theorem bts_app (w : Nat) (a b : List Nat) : bts w (a ++ b) = bts w a ++ bts w b := by simp [bts]
/-- the bits of one letter are cut out -/
theorem cut_bits {w : Nat} {pre rest : List Nat} {r : Nat} : cutD (nats (bts w (pre ++ r :: rest))) (some ((w * pre.length : Nat) : Int)) (some ((w * pre.length : Nat) + (w : Int))) = nats (bitsN w r) := by
  have e : ((w * pre.length : Nat) : Int) + (w : Int) = ((w * pre.length + w : Nat) : Int) := by omega
  have hb : bts w (r :: rest) = bitsN w r ++ bts w rest := by simp [bts]
  have hl : (nats (bts w (pre ++ r :: rest))).length = w * pre.length + (w + w * rest.length) := by
    rw [nats_len, bts_len, List.length_append, List.length_cons, Nat.mul_add, Nat.mul_add]; omega
  rw [e]
  unfold RL.cutD
  rw [HT.sIx_nat, HT.sIx_nat, hl, Nat.min_eq_left (by omega), Nat.min_eq_left (by omega)]
  rw [bts_app, nats_app, hb, nats_app]
  have h1 : w * pre.length = (nats (bts w pre)).length := by rw [nats_len, bts_len]
  have h2 : w * pre.length + w - w * pre.length = (nats (bitsN w r)).length := by rw [nats_len, bitsN_len]; omega
  rw [h2, h1, List.drop_left, List.take_left]
theorem fold_bits {w r : Nat} (hw : w = 4 ∨ w = 5) (hr : r < 2 ^ w) {a0 a1 a2 a3 a4 a6 : Option D} {c : Cs} : ∃ b6,
    loopL (gtName 6) (sAsg (eOp oAdd (eOp oMulA (eC (.int 2)) (eVar 5)) (eVar 6)) (gtName 5)) (nats (bitsN w r)) [a0, a1, a2, a3, a4, some (.int 0), a6] c = .nx [a0, a1, a2, a3, a4, some (.int (r : Nat)), b6] c := by
  rcases hw with rfl | rfl
  · refine ⟨some (.int ((r % 2 : Nat) : Int)), ?_⟩
    rw [bits_of4]
    simp [nats, loopL, gtName, SR.bind, sAsg, eOp, eC, eVar, oMulA, oMul, oI, oAdd, Res.toS]
    omega
  · refine ⟨some (.int ((r % 2 : Nat) : Int)), ?_⟩
    rw [bits_of5]
    simp [nats, loopL, gtName, SR.bind, sAsg, eOp, eC, eVar, oMulA, oMul, oI, oAdd, Res.toS]
    omega
abbrev rowBody : FS := (sSeq (sAsg (eC (.int 0)) (gtName 5))
    (sSeq (sFor (fSeq (eSl (eVar 1) (pSome (eVar 4)) (pSome (eOp oAdd (eVar 4) (eVar 2))))) (gtName 6) (sAsg (eOp oAdd (eOp oMulA (eC (.int 2)) (eVar 5)) (eVar 6)) (gtName 5)))
    (sDrop (eApp (eVar 3) (eVar 5)))))
theorem row_step {w r : Nat} (hw : w = 4 ∨ w = 5) (hr : r < 2 ^ w) {pre rest : List Nat} {f a5 a6 : Option D} {c0 : Cs} (hl : pre.length < 100000) : ∃ b6,
    rowBody [f, some (.tup (nats (bts w (pre ++ r :: rest)))), some (.int w), some (.cel c0.length), some (.int ((w * pre.length : Nat) : Int)), a5, a6] (c0 ++ [.lst (nats pre)]) =
      .nx [f, some (.tup (nats (bts w (pre ++ r :: rest)))), some (.int w), some (.cel c0.length), some (.int ((w * pre.length : Nat) : Int)), some (.int r), b6] (c0 ++ [.lst (nats (pre ++ [r]))]) := by
  obtain ⟨b6, e⟩ := fold_bits hw hr (a0 := f) (a1 := some (.tup (nats (bts w (pre ++ r :: rest))))) (a2 := some (.int w)) (a3 := some (.cel c0.length)) (a4 := some (.int ((w * pre.length : Nat) : Int))) (a6 := a6) (c := c0 ++ [.lst (nats pre)])
  refine ⟨b6, ?_⟩
  have hs : fSeq (eSl (eVar 1) (pSome (eVar 4)) (pSome (eOp oAdd (eVar 4) (eVar 2)))) [f, some (.tup (nats (bts w (pre ++ r :: rest)))), some (.int w), some (.cel c0.length), some (.int ((w * pre.length : Nat) : Int)), some (.int 0), a6] (c0 ++ [.lst (nats pre)]) = .ok (nats (bitsN w r)) (c0 ++ [.lst (nats pre)]) := by
    simp only [fSeq, eSl, pSome, eOp, eVar, List.getElem?_cons_succ, List.getElem?_cons_zero, Res.bind_ok, oAdd, oSl, cut_bits, walkD]
  have ha : eApp (eVar 3) (eVar 5) [f, some (.tup (nats (bts w (pre ++ r :: rest)))), some (.int w), some (.cel c0.length), some (.int ((w * pre.length : Nat) : Int)), some (.int r), b6] (c0 ++ [.lst (nats pre)]) = .ok .non (c0 ++ [.lst (nats (pre ++ [r]))]) := by
    have h1 : (nats pre).length < 100000 := by rw [nats_len]; exact hl
    have h2 : nats [r] = [.int (r : Nat)] := rfl
    simp [eApp, eVar, celOf, h1, nats_app, h2]
  exact (sSeq_nx (sAsg_nm rfl)).trans ((sSeq_nx ((sFor_ok hs).trans e)).trans (sDrop_ok ha))
theorem row_loop {w : Nat} (hw : w = 4 ∨ w = 5) {f : Option D} {c0 : Cs} : ∀ {rest pre : List Nat} {a4 a5 a6 : Option D}, (∀ n ∈ rest, n < 2 ^ w) → pre.length + rest.length ≤ 100000 → ∃ b4 b5 b6,
    loopL (gtName 4) rowBody (rngC ((w * pre.length : Nat) : Int) w rest.length) [f, some (.tup (nats (bts w (pre ++ rest)))), some (.int w), some (.cel c0.length), a4, a5, a6] (c0 ++ [.lst (nats pre)]) =
      .nx [f, some (.tup (nats (bts w (pre ++ rest)))), some (.int w), some (.cel c0.length), b4, b5, b6] (c0 ++ [.lst (nats (pre ++ rest))])
  | [], pre, a4, a5, a6, _, _ => ⟨a4, a5, a6, by simp [rngC, loopL]⟩
  | r :: rest, pre, a4, a5, a6, h, hl => by
    obtain ⟨x6, e⟩ := row_step hw (h r List.mem_cons_self) (pre := pre) (rest := rest) (f := f) (a5 := a5) (a6 := a6) (c0 := c0) (by simp at hl; omega)
    obtain ⟨b4, b5, b6, ih⟩ := row_loop hw (f := f) (c0 := c0) (rest := rest) (pre := pre ++ [r]) (a4 := some (.int ((w * pre.length : Nat) : Int))) (a5 := some (.int r)) (a6 := x6) (fun n hn => h n (List.mem_cons_of_mem _ hn)) (by simp at hl ⊢; omega)
    refine ⟨b4, b5, b6, ?_⟩
    have e1 : (pre ++ [r]) ++ rest = pre ++ r :: rest := by simp
    have e2 : ((w * (pre ++ [r]).length : Nat) : Int) = ((w * pre.length : Nat) : Int) + (w : Int) := by
      rw [List.length_append, Nat.mul_add]; simp
    rw [e1, e2] at ih
    rw [List.length_cons, rngC_succ]
    rw [← ih]
    exact loopL_nx rfl e
/-! ### key_of_bits -/
theorem rng_w {w n : Nat} (hw : w = 4 ∨ w = 5) (hn : n ≤ 30) : ((w : Int) ≠ 0 ∧ (w : Int).natAbs < 1073741824 ∧ Builtin.Range.small 0 ((w * n : Nat) : Int) w = true ∧ 0 ≤ Builtin.Range.rangeSize 0 ((w * n : Nat) : Int) w) ∧ (Builtin.Range.rangeSize 0 ((w * n : Nat) : Int) w).toNat = n := by
  rcases hw with rfl | rfl
  · have h : ∀ n : Fin 31, (((4 : Nat) : Int) ≠ 0 ∧ ((4 : Nat) : Int).natAbs < 1073741824 ∧ Builtin.Range.small 0 ((4 * n.val : Nat) : Int) ((4 : Nat) : Int) = true ∧ 0 ≤ Builtin.Range.rangeSize 0 ((4 * n.val : Nat) : Int) ((4 : Nat) : Int)) ∧ (Builtin.Range.rangeSize 0 ((4 * n.val : Nat) : Int) ((4 : Nat) : Int)).toNat = n.val := by decide +kernel
    exact h ⟨n, by omega⟩
  · have h : ∀ n : Fin 31, (((5 : Nat) : Int) ≠ 0 ∧ ((5 : Nat) : Int).natAbs < 1073741824 ∧ Builtin.Range.small 0 ((5 * n.val : Nat) : Int) ((5 : Nat) : Int) = true ∧ 0 ≤ Builtin.Range.rangeSize 0 ((5 * n.val : Nat) : Int) ((5 : Nat) : Int)) ∧ (Builtin.Range.rangeSize 0 ((5 * n.val : Nat) : Int) ((5 : Nat) : Int)).toNat = n.val := by decide +kernel
    exact h ⟨n, by omega⟩
theorem chk_t {X : FE} {nm : Str} {s : Sl} {c c1 : Cs} (h : X s c = .ok (.bl true) c1) : eCall (F_check K) (aCons X (aCons (eC (.str nm)) aNil)) s c = .ok .non c1 := by
  simp only [eCall, aCons, aNil, h, eC, Res.bind_ok, check_t]
theorem chk_f {X : FE} {nm : Str} {s : Sl} {c c1 : Cs} (h : X s c = .ok (.bl false) c1) (hn : nm.length ≤ 100000) : eCall (F_check K) (aCons X (aCons (eC (.str nm)) aNil)) s c = .err (badD K nm) c1 := by
  simp only [eCall, aCons, aNil, h, eC, Res.bind_ok, check_f hn]
def q1 : D → Bool
  | .int i => i != 2
  | _ => true
def q2 : D → Bool
  | .bl _ => true
  | _ => false
def El (d : D) : Prop := d = .int 0 ∨ d = .int 1 ∨ d = .int 2 ∨ d = .bl true
theorem el_1 {a0 a1 a2 a3 a4 a5 : Option D} {d : D} {c : Cs} (h : El d) : eAnd (eIsi (eVar 6) ["int"]) (eOp oIn (eVar 6) (eTup (aCons (eC (.int 0)) (aCons (eC (.int 1)) aNil)))) [a0, a1, a2, a3, a4, a5, some d] c = .ok (.bl (q1 d)) c := by
  have ht : ∀ s, eTup (aCons (eC (.int 0)) (aCons (eC (.int 1)) aNil)) s c = .ok (.tup [.int 0, .int 1]) c := fun s => by simp [eTup, aCons, aNil, eC]
  have hi0 : oIn (.int 0) (.tup [.int 0, .int 1]) c = .ok (.bl true) c := by kernel_rfl
  have hi1 : oIn (.int 1) (.tup [.int 0, .int 1]) c = .ok (.bl true) c := by kernel_rfl
  have hi2 : oIn (.int 2) (.tup [.int 0, .int 1]) c = .ok (.bl false) c := by kernel_rfl
  have hit : oIn (.bl true) (.tup [.int 0, .int 1]) c = .ok (.bl true) c := by kernel_rfl
  rcases h with rfl | rfl | rfl | rfl
  · simp [eAnd, eIsi, eVar, isiD, tyName, kt_int_int, eOp, ht, hi0, q1]
  · simp [eAnd, eIsi, eVar, isiD, tyName, kt_int_int, eOp, ht, hi1, q1]
  · simp [eAnd, eIsi, eVar, isiD, tyName, kt_int_int, eOp, ht, hi2, q1]
  · simp [eAnd, eIsi, eVar, isiD, tyName, kt_bool_int, eOp, ht, hit, q1]
theorem el_2 {a0 a1 a2 a3 a4 a5 : Option D} {d : D} {c : Cs} (h : El d) : eIsi (eVar 6) ["bool"] [a0, a1, a2, a3, a4, a5, some d] c = .ok (.bl (q2 d)) c := by
  rcases h with rfl | rfl | rfl | rfl
  · simp [eIsi, eVar, isiD, tyName, kt_int_bool, q2]
  · simp [eIsi, eVar, isiD, tyName, kt_int_bool, q2]
  · simp [eIsi, eVar, isiD, tyName, kt_int_bool, q2]
  · simp [eIsi, eVar, isiD, tyName, kt_bool_bool, q2]
end K01

set_option Elab.async false
set_option linter.all false
set_option maxRecDepth 100000
set_option maxHeartbeats 4000000
/-! ## the plain law of k01: key_of_bits -/
namespace K01
open PySem PySem.Spec PyProof.Rows L2 RL
variable {K : PySem.W.Frag}
abbrev kobT (K : PySem.W.Frag) (c : Cs) : Prop := hasTab c 2 (tb K 2) "key_of_bits.<locals>.<genexpr>" = true
theorem mkF_2 {m : Nat} {b : FS} {d e : D} {c : Cs} : mkF 2 m b [d, e] c = fin (b (startD 2 m [d, e]) c) := if_pos rfl
theorem kob_all {f a2 a3 a4 a5 a6 : Option D} {ds : List D} {c : Cs} (hc : kobT K c) (h : ∀ d ∈ ds, El d) :
    eQ false 2 (tb K 2) "key_of_bits.<locals>.<genexpr>" (fSeq (eVar 1)) (.nm 6) (eAnd (eIsi (eVar 6) ["int"]) (eOp oIn (eVar 6) (eTup (aCons (eC (.int 0)) (aCons (eC (.int 1)) aNil))))) [6] [f, some (.tup ds), a2, a3, a4, a5, a6] c = .ok (.bl (ds.all q1)) c := by
  have q := qL_all (j := 6) (f := eAnd (eIsi (eVar 6) ["int"]) (eOp oIn (eVar 6) (eTup (aCons (eC (.int 0)) (aCons (eC (.int 1)) aNil))))) (s0 := [f, some (.tup ds), a2, a3, a4, a5, none]) (q := q1) (c := c) (ds := ds) (fun d hd => el_1 (h d hd))
  have hs : fSeq (eVar 1) [f, some (.tup ds), a2, a3, a4, a5, a6] c = .ok ds c := rfl
  simp only [eQ, hs, Res.bind_ok, show hasTab c 2 (tb K 2) "key_of_bits.<locals>.<genexpr>" = true from hc, if_true, wipeD, List.set_cons_succ, List.set_cons_zero, q]
theorem kob_any {f a2 a3 a4 a5 a6 : Option D} {ds : List D} {c : Cs} (hc : kobT K c) (h : ∀ d ∈ ds, El d) :
    eQ true 2 (tb K 2) "key_of_bits.<locals>.<genexpr>" (fSeq (eVar 1)) (.nm 6) (eIsi (eVar 6) ["bool"]) [6] [f, some (.tup ds), a2, a3, a4, a5, a6] c = .ok (.bl (ds.any q2)) c := by
  have q := qL_any (j := 6) (f := eIsi (eVar 6) ["bool"]) (s0 := [f, some (.tup ds), a2, a3, a4, a5, none]) (q := q2) (c := c) (ds := ds) (fun d hd => el_2 (h d hd))
  have hs : fSeq (eVar 1) [f, some (.tup ds), a2, a3, a4, a5, a6] c = .ok ds c := rfl
  simp only [eQ, hs, Res.bind_ok, show hasTab c 2 (tb K 2) "key_of_bits.<locals>.<genexpr>" = true from hc, if_true, wipeD, List.set_cons_succ, List.set_cons_zero, q]
theorem bits_name : (Str.ofString "bits").length ≤ 100000 := by decide +kernel
theorem fam_s {y : Ky} {d : D} {c : Cs} : eCall (F_check K) (aCons (eCall (F_is_family K) (aCons (eVar 0) aNil)) (aCons (eC (.str "family")) aNil)) [some (.str y.fam), some d, none, none, none, none, none] c = .ok .non c := by
  refine chk_t ?_
  have : eCall (F_is_family K) (aCons (eVar 0) aNil) [some (.str y.fam), some d, none, none, none, none, none] c = F_is_family K [.str y.fam] c := rfl
  rw [this, fam_t]
theorem kob_st {y : Ky} {d : D} : startD 2 7 [.str y.fam, d] = [some (.str y.fam), some d, none, none, none, none, none] := rfl
theorem eAnd_f {f g : FE} {s : Sl} {c c1 : Cs} (h : f s c = .ok (.bl false) c1) : eAnd f g s c = .ok (.bl false) c1 := by
  unfold eAnd; rw [h]; rfl
theorem eAnd_t {f g : FE} {s : Sl} {c c1 : Cs} (h : f s c = .ok (.bl true) c1) : eAnd f g s c = g s c1 := by
  unfold eAnd; rw [h]; rfl
theorem eNot_b {f : FE} {s : Sl} {c c1 : Cs} {b : Bool} (h : f s c = .ok (.bl b) c1) : eNot f s c = .ok (.bl (!b)) c1 := by
  unfold eNot; rw [h]; rfl
/-- no tuple -/
theorem kob_err0 {y : Ky} {d : D} {c : Cs} (hd : d = .non ∨ ∃ l, d = .lst l) : F_key_of_bits K [.str y.fam, d] c = .err (badD K "bits") c := by
  have ht : eIsi (eVar 1) ["tuple"] [some (.str y.fam), some d, none, none, none, none, none] c = .ok (.bl false) c := by
    rcases hd with rfl | ⟨l, rfl⟩
    · simp [eIsi, eVar, isiD, tyName, kt_NoneType_tuple]
    · simp [eIsi, eVar, isiD, tyName, kt_list_tuple]
  unfold F_key_of_bits
  rw [mkF_2, kob_st, b_key_of_bits, sSeq_nx (sDrop_ok fam_s), sSeq_err (sDrop_err (chk_f (eAnd_f ht) bits_name))]
  rfl
theorem isi_tup {f : Option D} {ds : List D} {a2 a3 a4 a5 a6 : Option D} {c : Cs} : eIsi (eVar 1) ["tuple"] [f, some (.tup ds), a2, a3, a4, a5, a6] c = .ok (.bl true) c := by
  simp [eIsi, eVar, isiD, tyName, kt_tuple_tuple]
/-- something that is no bit -/
theorem kob_err1 {y : Ky} {ds : List D} {c : Cs} (hc : kobT K c) (h : ∀ d ∈ ds, El d) (hq : ds.all q1 = false) : F_key_of_bits K [.str y.fam, .tup ds] c = .err (badD K "bits") c := by
  have h1 := kob_all (f := some (.str y.fam)) (a2 := none) (a3 := none) (a4 := none) (a5 := none) (a6 := none) hc h
  rw [hq] at h1
  unfold F_key_of_bits
  rw [mkF_2, kob_st, b_key_of_bits, sSeq_nx (sDrop_ok fam_s), sSeq_err (sDrop_err (chk_f ((eAnd_t isi_tup).trans h1) bits_name))]
  rfl
theorem len_mod {f a3 a4 a5 a6 : Option D} {ds : List D} {w : Nat} (hw : 0 < w) {c : Cs} : eOp oEq (eOp oMod (eCall fLen (aCons (eVar 1) aNil)) (eVar 2)) (eC (.int 0)) [f, some (.tup ds), some (.int w), a3, a4, a5, a6] c = .ok (.bl (decide (ds.length % w = 0))) c := by
  have h1 : (0 : Int) < (w : Int) := by omega
  have e : (((ds.length : Nat) : Int) % (w : Int) == 0) = decide (ds.length % w = 0) := by
    rw [Bool.eq_iff_iff]; simp; omega
  simp [eOp, eCall, aCons, aNil, eVar, fLen, seqOf, oMod, oI, h1, hw, eC, eq_int, e]
/-- the checks told; x is what is left -/
theorem kob_err2 {y : Ky} {ds : List D} {c : Cs} (hc : kobT K c) (h : ∀ d ∈ ds, El d) (hq : ds.all q1 = true) (h2 : ds.length % y.wid ≠ 0 ∨ ds.any q2 = true) : F_key_of_bits K [.str y.fam, .tup ds] c = .err (badD K "bits") c := by
  have hw : 0 < y.wid := by rcases y.wid_of with e | e <;> omega
  have h1 := kob_all (f := some (.str y.fam)) (a2 := none) (a3 := none) (a4 := none) (a5 := none) (a6 := none) hc h
  rw [hq] at h1
  have ew := wid_eq (y := y) (s := [some (.str y.fam), some (.tup ds), none, none, none, none, none]) (c := c) rfl
  have hm := len_mod (f := some (.str y.fam)) (a3 := none) (a4 := none) (a5 := none) (a6 := none) (ds := ds) hw (c := c)
  have ha := kob_any (f := some (.str y.fam)) (a2 := some (.int y.wid)) (a3 := none) (a4 := none) (a5 := none) (a6 := none) hc h
  have hx : eAnd (eOp oEq (eOp oMod (eCall fLen (aCons (eVar 1) aNil)) (eVar 2)) (eC (.int 0))) (eNot (eQ true 2 (tb K 2) "key_of_bits.<locals>.<genexpr>" (fSeq (eVar 1)) (.nm 6) (eIsi (eVar 6) ["bool"]) [6])) [some (.str y.fam), some (.tup ds), some (.int y.wid), none, none, none, none] c = .ok (.bl false) c := by
    by_cases e : ds.length % y.wid = 0
    · rw [decide_eq_true e] at hm
      rcases h2 with h2 | h2
      · exact (h2 e).elim
      · rw [h2] at ha
        exact (eAnd_t hm).trans (eNot_b ha)
    · rw [decide_eq_false e] at hm
      exact eAnd_f hm
  unfold F_key_of_bits
  rw [mkF_2, kob_st, b_key_of_bits, sSeq_nx (sDrop_ok fam_s), sSeq_nx (sDrop_ok (chk_t ((eAnd_t isi_tup).trans h1))), sSeq_nx (sAsg_nm ew)]
  show fin (sSeq _ _ [some (.str y.fam), some (.tup ds), some (.int y.wid), none, none, none, none] c) = _
  rw [sSeq_err (sDrop_err (chk_f hx bits_name))]
  rfl
theorem bit_el {l : List Nat} (h : ∀ n ∈ l, n < 2) : (∀ d ∈ nats l, El d) ∧ (nats l).all q1 = true ∧ (nats l).any q2 = false := by
  have h0 : ∀ d ∈ nats l, d = .int 0 ∨ d = .int 1 := fun d hd => by
    obtain ⟨n, hn, rfl⟩ := List.mem_map.mp hd
    have := h n hn
    have e : n = 0 ∨ n = 1 := by omega
    rcases e with rfl | rfl
    · exact .inl rfl
    · exact .inr rfl
  refine ⟨fun d hd => (h0 d hd).elim .inl (fun e => .inr (.inl e)), ?_, ?_⟩
  · rw [List.all_eq_true]
    intro d hd
    rcases h0 d hd with rfl | rfl <;> rfl
  · rw [List.any_eq_false]
    intro d hd
    rcases h0 d hd with rfl | rfl <;> simp [q2]
theorem bts_lt {w : Nat} {l : List Nat} : ∀ n ∈ bts w l, n < 2 := by
  intro n hn
  simp only [bts, List.mem_flatMap, bitsN, List.mem_map] at hn
  obtain ⟨a, _, b, _, rfl⟩ := hn
  omega
theorem kob_rows {y : Ky} {rows : List Nat} {c : Cs} (hc : kobT K c) (hr : ∀ n ∈ rows, n < 2 ^ y.wid) (hl : rows.length ≤ 30) :
    F_key_of_bits K [.str y.fam, .tup (nats (bts y.wid rows))] c = F_key_of_row K [.str y.fam, .cel c.length] (c ++ [.lst (nats rows)]) := by
  have hw : 0 < y.wid := by rcases y.wid_of with e | e <;> omega
  obtain ⟨h, hq, hq2⟩ := bit_el (l := bts y.wid rows) bts_lt
  have h1 := kob_all (f := some (.str y.fam)) (a2 := none) (a3 := none) (a4 := none) (a5 := none) (a6 := none) hc h
  rw [hq] at h1
  have ew := wid_eq (y := y) (s := [some (.str y.fam), some (.tup (nats (bts y.wid rows))), none, none, none, none, none]) (c := c) rfl
  have hm := len_mod (f := some (.str y.fam)) (a3 := none) (a4 := none) (a5 := none) (a6 := none) (ds := nats (bts y.wid rows)) hw (c := c)
  rw [nats_len, K01.bts_len, Nat.mul_mod_right, decide_eq_true rfl] at hm
  have ha := kob_any (f := some (.str y.fam)) (a2 := some (.int y.wid)) (a3 := none) (a4 := none) (a5 := none) (a6 := none) hc h
  rw [hq2] at ha
  obtain ⟨b4, b5, b6, e⟩ := row_loop y.wid_of (f := some (.str y.fam)) (c0 := c) (rest := rows) (pre := []) (a4 := none) (a5 := none) (a6 := none) hr (by simp; omega)
  obtain ⟨r1, r2⟩ := rng_w y.wid_of hl
  have hs : fRng3 (aCons (eC (.int 0)) (aCons (eCall fLen (aCons (eVar 1) aNil)) (aCons (eVar 2) aNil))) [some (.str y.fam), some (.tup (nats (bts y.wid rows))), some (.int y.wid), some (.cel c.length), none, none, none] (c ++ [.lst []]) = .ok (rngC 0 y.wid rows.length) (c ++ [.lst []]) := by
    simp only [fRng3, aCons, aNil, eC, eCall, eVar, List.getElem?_cons_succ, List.getElem?_cons_zero, Res.bind_ok, fLen, seqOf, nats_len, K01.bts_len, if_pos r1, r2]
  have hn : eNew aNil [some (.str y.fam), some (.tup (nats (bts y.wid rows))), some (.int y.wid), none, none, none, none] c = .ok (.cel c.length) (c ++ [.lst []]) := by
    simp [eNew, aNil]
  unfold F_key_of_bits
  rw [mkF_2, kob_st, b_key_of_bits, sSeq_nx (sDrop_ok fam_s), sSeq_nx (sDrop_ok (chk_t ((eAnd_t isi_tup).trans h1))), sSeq_nx (sAsg_nm ew)]
  show fin (sSeq _ _ [some (.str y.fam), some (.tup (nats (bts y.wid rows))), some (.int y.wid), none, none, none, none] c) = _
  rw [sSeq_nx (sDrop_ok (chk_t ((eAnd_t hm).trans (eNot_b ha)))), sSeq_nx (sAsg_nm hn)]
  show fin (sSeq _ _ [some (.str y.fam), some (.tup (nats (bts y.wid rows))), some (.int y.wid), some (.cel c.length), none, none, none] _) = _
  rw [sSeq_nx ((sFor_ok hs).trans e)]
  show fin ((F_key_of_row K [.str y.fam, .cel c.length] (c ++ [.lst (nats ([] ++ rows))])).toS _ fun d c1 => .rt d c1) = _
  rw [List.nil_append]
  cases F_key_of_row K [.str y.fam, .cel c.length] (c ++ [.lst (nats rows)]) <;> rfl
end K01

set_option Elab.async false
set_option linter.all false
set_option maxRecDepth 100000
set_option maxHeartbeats 4000000
/-! ## the plain law of k01: key_of_row -/
namespace K01
open PySem PySem.Spec PyProof.Rows L2 RL
variable {K : PySem.W.Frag}
theorem sIx_m1 {n d : Nat} : HT.sIx n d (some (-1)) = n - 1 := by
  show (if (-1 : Int) < 0 then ((-1 : Int) + (n : Int)).toNat else min (-1 : Int).toNat n) = n - 1
  rw [if_pos (by decide)]
  omega
theorem cut_last {init : List Nat} {x : Nat} : RL.cutD (nats (init ++ [x])) (some (-1)) none = nats [x] := by
  unfold RL.cutD
  rw [sIx_m1, HT.sIx_none, nats_app]
  have h : (nats init ++ nats [x]).length - 1 = (nats init).length := by simp [nats]
  rw [h, List.drop_left]
  simp [nats]
theorem cut_init {init : List Nat} {x : Nat} : RL.cutD (nats (init ++ [x])) none (some (-1)) = nats init := by
  unfold RL.cutD
  rw [sIx_m1, HT.sIx_none, nats_app]
  have h : (nats init ++ nats [x]).length - 1 = (nats init).length := by simp [nats]
  rw [h]
  simp
theorem kor_st {f d : D} : startD 2 5 [f, d] = [some f, some d, none, none, none] := rfl
theorem sub_ok {f a2 a3 a4 : Option D} {n : Nat} {l : List D} {c : Cs} (hn : c[n]? = some (.lst l)) {lo hi : FO} {x y : Option Int} (h1 : ∀ s, lo s c = .ok x c) (h2 : ∀ s, hi s c = .ok y c) : eSl (eVar 1) lo hi [f, some (.cel n), a2, a3, a4] c = .ok (.lst (RL.cutD l x y)) c := by
  simp only [eSl, eVar, List.getElem?_cons_succ, List.getElem?_cons_zero, Res.bind_ok, h1, h2, oSl, RL.listOf, hn]
theorem m1_ok {s : Sl} {c : Cs} : pSome (eNeg (eC (.int 1))) s c = .ok (some (-1)) c := by simp [pSome, eNeg, eC]
theorem none_ok {s : Sl} {c : Cs} : pNone s c = .ok none c := rfl
theorem isn_w {a1 a2 a3 a4 : Option D} {c : Cs} : tsE (eOp oEq (eVar 0) (eC (.str "numbers"))) [some (.str "words"), a1, a2, a3, a4] c = .ok false c := by
  simp [tsE, eOp, eVar, eC, eq_wn]
theorem isn_n {a1 a2 a3 a4 : Option D} {c : Cs} : tsE (eOp oEq (eVar 0) (eC (.str "numbers"))) [some (.str "numbers"), a1, a2, a3, a4] c = .ok true c := by
  simp [tsE, eOp, eVar, eC, eq_nn]
theorem l0_ok {s : Sl} {c : Cs} : eLst (aCons (eC (.int 0)) aNil) s c = .ok (.lst [.int 0]) c := by simp [eLst, aCons, aNil, eC]
theorem eq_l1 {x : Nat} {c : Cs} : oEq (.lst (nats [x])) (.lst [.int 0]) c = .ok (.bl (decide (x = 0))) c := by
  have e : ((x : Int) == 0) = decide (x = 0) := by rw [Bool.eq_iff_iff]; simp
  simp [nats, oEq, eqD, pyTop, pyOf, pyAll, SeqAt.shaped, PyData.canLay0, PyData.canLayAll0, PyData.depth, PyData.depthAll, PyData.eqv, PyData.eqvAll, e]
theorem eq_l0 {c : Cs} : oEq (.lst (nats [])) (.lst [.int 0]) c = .ok (.bl false) c := by kernel_rfl
theorem last_eq {f a2 a3 a4 : Option D} {n : Nat} {init : List Nat} {x : Nat} {c : Cs} (hn : c[n]? = some (.lst (nats (init ++ [x])))) :
    eOp oEq (eSl (eVar 1) (pSome (eNeg (eC (.int 1)))) pNone) (eLst (aCons (eC (.int 0)) aNil)) [f, some (.cel n), a2, a3, a4] c = .ok (.bl (decide (x = 0))) c := by
  rw [eOp, sub_ok hn (fun _ => m1_ok) (fun _ => none_ok), Res.bind_ok, l0_ok, Res.bind_ok, cut_last, eq_l1]
theorem last_nil {f a2 a3 a4 : Option D} {n : Nat} {c : Cs} (hn : c[n]? = some (.lst (nats []))) :
    eOp oEq (eSl (eVar 1) (pSome (eNeg (eC (.int 1)))) pNone) (eLst (aCons (eC (.int 0)) aNil)) [f, some (.cel n), a2, a3, a4] c = .ok (.bl false) c := by
  rw [eOp, sub_ok hn (fun _ => m1_ok) (fun _ => none_ok), Res.bind_ok, l0_ok, Res.bind_ok]
  have : RL.cutD (nats []) (some (-1)) none = nats [] := by simp [RL.cutD, nats]
  rw [this, eq_l0]
def okL (s : Nat) : Bool := decide (1 ≤ s) && decide (s ≤ 26)
def okD : D → Bool
  | .int i => decide (1 ≤ i) && decide (i ≤ 26)
  | _ => false
theorem chain_ok {a0 a1 a2 a3 : Option D} {s : Nat} {c : Cs} : eChain oLe oLe (eC (.int 1)) (eVar 4) (eCall fLen (aCons (eC (.str "abcdefghijklmnopqrstuvwxyz")) aNil)) [a0, a1, a2, a3, some (.int s)] c = .ok (.bl (okD (.int s))) c := by
  have e : (Str.ofString "abcdefghijklmnopqrstuvwxyz").length = 26 := by decide +kernel
  by_cases h : (1 : Int) ≤ (s : Int)
  · simp [eChain, eC, eVar, oLe, h, eCall, aCons, aNil, fLen, e, okD]
  · simp [eChain, eC, eVar, oLe, h, eCall, aCons, aNil, fLen, e, okD]
theorem okD_all (l : List Nat) : (nats l).all okD = l.all okL := by
  induction l with
  | nil => rfl
  | cons a l ih =>
    have e : okD (.int (a : Nat)) = okL a := by
      simp only [okD, okL]
      rw [Bool.eq_iff_iff]; simp; omega
    simp only [nats, List.map_cons, List.all_cons] at ih ⊢
    rw [e, ih]
abbrev korT (K : PySem.W.Frag) (c : Cs) : Prop := hasTab c 1 (tb K 1) "key_of_row.<locals>.<genexpr>" = true
theorem init_src {f a2 a3 a4 : Option D} {n : Nat} {init : List Nat} {x : Nat} {c : Cs} (hn : c[n]? = some (.lst (nats (init ++ [x])))) :
    fSeq (eSl (eVar 1) pNone (pSome (eNeg (eC (.int 1))))) [f, some (.cel n), a2, a3, a4] c = .ok (nats init) c := by
  rw [fSeq, sub_ok hn (fun _ => none_ok) (fun _ => m1_ok), Res.bind_ok, cut_init]
  rfl
theorem kor_all {f a2 a3 a4 : Option D} {n : Nat} {init : List Nat} {x : Nat} {c : Cs} (hc : korT K c) (hn : c[n]? = some (.lst (nats (init ++ [x])))) :
    eQ false 1 (tb K 1) "key_of_row.<locals>.<genexpr>" (fSeq (eSl (eVar 1) pNone (pSome (eNeg (eC (.int 1)))))) (.nm 4) (eChain oLe oLe (eC (.int 1)) (eVar 4) (eCall fLen (aCons (eC (.str "abcdefghijklmnopqrstuvwxyz")) aNil))) [4] [f, some (.cel n), a2, a3, a4] c = .ok (.bl (init.all okL)) c := by
  have q := qL_all (j := 4) (f := eChain oLe oLe (eC (.int 1)) (eVar 4) (eCall fLen (aCons (eC (.str "abcdefghijklmnopqrstuvwxyz")) aNil))) (s0 := [f, some (.cel n), a2, a3, none]) (q := okD) (c := c) (ds := nats init) (fun d hd => by
    obtain ⟨s, _, rfl⟩ := List.mem_map.mp hd
    exact chain_ok)
  rw [okD_all] at q
  simp only [eQ, init_src hn, Res.bind_ok, show hasTab c 1 (tb K 1) "key_of_row.<locals>.<genexpr>" = true from hc, if_true, wipeD, List.set_cons_succ, List.set_cons_zero, q]
/-- a row that is no word's -/
theorem kor_w_err {n : Nat} {rows : List Nat} {c : Cs} (hc : korT K c) (hn : c[n]? = some (.lst (nats rows))) (h : rows = [] ∨ ∃ init x, rows = init ++ [x] ∧ (x ≠ 0 ∨ init.all okL = false)) :
    F_key_of_row K [.str "words", .cel n] c = .err (badD K "bits") c := by
  have hx : eAnd (eOp oEq (eSl (eVar 1) (pSome (eNeg (eC (.int 1)))) pNone) (eLst (aCons (eC (.int 0)) aNil))) (eQ false 1 (tb K 1) "key_of_row.<locals>.<genexpr>" (fSeq (eSl (eVar 1) pNone (pSome (eNeg (eC (.int 1)))))) (.nm 4) (eChain oLe oLe (eC (.int 1)) (eVar 4) (eCall fLen (aCons (eC (.str "abcdefghijklmnopqrstuvwxyz")) aNil))) [4]) [some (.str "words"), some (.cel n), none, none, none] c = .ok (.bl false) c := by
    rcases h with rfl | ⟨init, x, rfl, h⟩
    · exact eAnd_f (last_nil hn)
    · have e := last_eq (f := some (.str "words")) (a2 := none) (a3 := none) (a4 := none) hn
      by_cases ex : x = 0
      · rw [decide_eq_true ex] at e
        rcases h with h | h
        · exact (h ex).elim
        · have e2 := kor_all (f := some (.str "words")) (a2 := none) (a3 := none) (a4 := none) hc hn
          rw [h] at e2
          exact (eAnd_t e).trans e2
      · rw [decide_eq_false ex] at e
        exact eAnd_f e
  unfold F_key_of_row
  rw [mkF_2, kor_st, b_key_of_row, sSeq_nx (sIf_fn isn_w), sSeq_err (sDrop_err (chk_f hx bits_name))]
  rfl
theorem alpha_ix {a0 a1 a2 a3 : Option D} {s : Nat} {c : Cs} (h : okL s = true) : eOp oIx (eC (.str "abcdefghijklmnopqrstuvwxyz")) (eOp oSub (eVar 4) (eC (.int 1))) [a0, a1, a2, a3, some (.int s)] c = .ok (.str (SX.S [s + 96])) c := by
  have hs : 1 ≤ s ∧ s ≤ 26 := by simpa [okL] using h
  have e : ∀ k : Fin 26, atI AL (k.val : Int) = some (k.val + 97) := by decide +kernel
  have e1 := e ⟨s - 1, by omega⟩
  have e2 : (s : Int) - 1 = ((s - 1 : Nat) : Int) := by omega
  have e3 : s - 1 + 97 = s + 96 := by omega
  have el : (SX.S AL).length ≤ 100000 := by decide
  have et : (SX.S AL).cps.toList = AL := rfl
  simp only [e3] at e1
  simp only [eOp, eC, eVar, List.getElem?_cons_succ, List.getElem?_cons_zero, Res.bind_ok, oSub, oI, if_true, e2, AB_eq, oIx, if_pos el, et, e1]
/-- the word of a row -/
theorem kor_word {n : Nat} {init : List Nat} {c : Cs} (hc0 : hasTab c 0 (tb K 0) "is_word.<locals>.<genexpr>" = true) (hc : korT K c) (hn : c[n]? = some (.lst (nats (init ++ [0])))) (h : init.all okL = true) (hl : init.length ≤ 1000) :
    F_key_of_row K [.str "words", .cel n] c = if 1 ≤ init.length ∧ init.length ≤ 12 then .ok (.str (SX.S (init.map (· + 96)))) c else .err (badD K "bits") c := by
  have e := last_eq (f := some (.str "words")) (a2 := none) (a3 := none) (a4 := none) hn
  rw [decide_eq_true rfl] at e
  have e2 := kor_all (f := some (.str "words")) (a2 := none) (a3 := none) (a4 := none) hc hn
  rw [h] at e2
  have hi : ∀ s ∈ init, okL s = true := fun s hs => List.all_eq_true.mp h s hs
  have ec : eComp (fSeq (eSl (eVar 1) pNone (pSome (eNeg (eC (.int 1)))))) (.nm 4) (fun _ c => .ok true c) (eOp oIx (eC (.str "abcdefghijklmnopqrstuvwxyz")) (eOp oSub (eVar 4) (eC (.int 1)))) [4] [some (.str "words"), some (.cel n), none, none, none] c = .ok (.lst ((init.map (· + 96)).map fun k => .str (SX.S [k]))) c := by
    have := eComp_map (src := fSeq (eSl (eVar 1) pNone (pSome (eNeg (eC (.int 1)))))) (j := 4) (f := eOp oIx (eC (.str "abcdefghijklmnopqrstuvwxyz")) (eOp oSub (eVar 4) (eC (.int 1)))) (vs := [4]) (s := [some (.str "words"), some (.cel n), none, none, none]) (c := c) (c1 := c) (ds := nats init)
      (fun d => match d with | .int i => .str (SX.S [i.toNat + 96]) | d => d) (init_src hn) (by rw [nats_len]; omega) (fun d hd => by
        obtain ⟨s, hs, rfl⟩ := List.mem_map.mp hd
        exact alpha_ix (hi s hs))
    rw [this]
    simp [nats, Function.comp_def]
  have ej := eJoin_ones (f := eC (.str (Str.ofString ""))) (c := c) rfl ec (by rw [List.length_map]; omega)
  have ew := isword (K := K) (w := init.map (· + 96)) (c := c) hc0 (by rw [List.length_map]; omega)
  have ea : (init.map (· + 96)).all (fun k => decide (k ∈ AL)) = true := by
    refine all_al fun k hk => ?_
    obtain ⟨s, hs, rfl⟩ := List.mem_map.mp hk
    have := hi s hs
    have : 1 ≤ s ∧ s ≤ 26 := by simpa [okL] using this
    omega
  rw [ea, List.length_map, Bool.and_true] at ew
  have ex : eCall (F_is_word K) (aCons (eVar 2) aNil) [some (.str "words"), some (.cel n), some (.str (SX.S (init.map (· + 96)))), none, none] c = F_is_word K [.str (SX.S (init.map (· + 96)))] c := rfl
  unfold F_key_of_row
  rw [mkF_2, kor_st, b_key_of_row, sSeq_nx (sIf_fn isn_w), sSeq_nx (sDrop_ok (chk_t ((eAnd_t e).trans e2))), sSeq_nx (sAsg_nm ej)]
  show fin (sSeq _ _ [some (.str "words"), some (.cel n), some (.str (SX.S (init.map (· + 96)))), none, none] c) = _
  by_cases hb : 1 ≤ init.length ∧ init.length ≤ 12
  · rw [if_pos hb]
    rw [decide_eq_true hb.1, decide_eq_true hb.2] at ew
    rw [sSeq_nx (sDrop_ok (chk_t (ex.trans ew))), sRet_ok (d := .str (SX.S (init.map (· + 96)))) (c1 := c) rfl]
    rfl
  · rw [if_neg hb]
    have : (decide (1 ≤ init.length) && decide (init.length ≤ 12)) = false := by
      rw [Bool.eq_false_iff]; simpa using hb
    rw [this] at ew
    rw [sSeq_err (sDrop_err (chk_f (ex.trans ew) bits_name))]
    rfl
end K01

set_option Elab.async false
set_option linter.all false
set_option maxRecDepth 100000
set_option maxHeartbeats 4000000
/-! ## the plain law of k01: keys back from bits, bent bits -/
namespace K01
open PySem PySem.Spec PyProof.Rows L2 RL
variable {K : PySem.W.Frag}
theorem four_eq {f a2 a3 a4 : Option D} {n : Nat} {rows : List Nat} {c : Cs} (hn : c[n]? = some (.lst (nats rows))) : eOp oEq (eCall fLen (aCons (eVar 1) aNil)) (eOp oDiv (eC (.int 16)) (eC (.int 4))) [f, some (.cel n), a2, a3, a4] c = .ok (.bl (decide (rows.length = 4))) c := by
  have e : ((rows.length : Int) == 4) = decide (rows.length = 4) := by rw [Bool.eq_iff_iff]; simp; omega
  have e2 : (16 : Int) / 4 = 4 := by decide
  simp [eOp, eCall, aCons, aNil, eVar, fLen, seqOf, hn, nats_len, eC, oDiv, oI, eq_int, e]
theorem kor_num_err {n : Nat} {rows : List Nat} {c : Cs} (hn : c[n]? = some (.lst (nats rows))) (h : rows.length ≠ 4) : F_key_of_row K [.str "numbers", .cel n] c = .err (badD K "bits") c := by
  have e := four_eq (f := some (.str "numbers")) (a2 := none) (a3 := none) (a4 := none) hn
  rw [decide_eq_false h] at e
  unfold F_key_of_row
  rw [mkF_2, kor_st, b_key_of_row, sSeq_err ((sIf_t isn_n).trans (sSeq_err (sDrop_err (chk_f e bits_name))))]
  rfl
theorem kor_num_ok {n k : Nat} {c : Cs} (hk : k < 65536) (hn : c[n]? = some (.lst (nats (Ky.num k).lts))) : F_key_of_row K [.str "numbers", .cel n] c = .ok (.int (k : Nat)) c := by
  have e := four_eq (f := some (.str "numbers")) (a2 := none) (a3 := none) (a4 := none) hn
  rw [decide_eq_true (show (Ky.num k).lts.length = 4 from rfl)] at e
  have hn' : c[n]? = some (.lst [.int ((k / 4096 % 16 : Nat) : Int), .int ((k / 256 % 16 : Nat) : Int), .int ((k / 16 % 16 : Nat) : Int), .int ((k % 16 : Nat) : Int)]) := hn
  have hv : (16 * (16 * (16 * (16 * (0 : Int) + ((k / 4096 % 16 : Nat) : Int)) + ((k / 256 % 16 : Nat) : Int)) + ((k / 16 % 16 : Nat) : Int)) + ((k % 16 : Nat) : Int)) = (k : Int) := by omega
  have el : sForV (eVar 1) (gtName 3) (sAsg (eOp oAdd (eOp oMulA (eC (.int 16)) (eVar 2)) (eVar 3)) (gtName 2)) [some (.str "numbers"), some (.cel n), some (.int 0), none, none] c = .nx [some (.str "numbers"), some (.cel n), some (.int (k : Nat)), some (.int ((k % 16 : Nat) : Int)), none] c := by
    rw [← hv]
    generalize ((k / 4096 % 16 : Nat) : Int) = x1 at *
    generalize ((k / 256 % 16 : Nat) : Int) = x2 at *
    generalize ((k / 16 % 16 : Nat) : Int) = x3 at *
    generalize ((k % 16 : Nat) : Int) = x4 at *
    simp [sForV, eVar, Res.toS, hn', loopC, gtName, SR.bind, sAsg, eOp, eC, oMulA, oMul, oI, oAdd]
  unfold F_key_of_row
  rw [mkF_2, kor_st, b_key_of_row, sSeq_rt ((sIf_t isn_n).trans ((sSeq_nx (sDrop_ok (chk_t e))).trans ((sSeq_nx (sAsg_nm rfl)).trans ((sSeq_nx el).trans (sRet_ok rfl)))))]
  rfl
structure Tabs (K : PySem.W.Frag) (c : Cs) : Prop where
  t0 : hasTab c 0 (tb K 0) "is_word.<locals>.<genexpr>" = true
  t1 : hasTab c 1 (tb K 1) "key_of_row.<locals>.<genexpr>" = true
  t2 : hasTab c 2 (tb K 2) "key_of_bits.<locals>.<genexpr>" = true
theorem hasTab_app {c x : Cs} {n : Nat} {P : Addr} {q : Str} (h : hasTab c n P q = true) : hasTab (c ++ x) n P q = true := by
  have e := hasTab_at h
  have e2 : (c ++ x)[n]? = some (.tab P q) := by
    rw [List.getElem?_append_left (List.getElem?_eq_some_iff.mp e).1]; exact e
  simp [hasTab, e2]
theorem Tabs.app {c x : Cs} (h : Tabs K c) : Tabs K (c ++ x) := ⟨hasTab_app h.t0, hasTab_app h.t1, hasTab_app h.t2⟩
theorem Row.tabs {ds : List Int} {c : Cs} (h : Row K ds c) : Tabs K c := ⟨h.tab0, h.tab1, h.tab2⟩
theorem at_end {c : Cs} {x : Cell} : (c ++ [x])[c.length]? = some x := by simp
theorem kob_ok {y : Ky} {c : Cs} (h : y.Ok) (t : Tabs K c) : F_key_of_bits K [.str y.fam, .tup (nats (bts y.wid y.lts))] c = .ok y.dat (c ++ [.lst (nats y.lts)]) := by
  have hl := Ky.lts_len h
  rw [kob_rows t.t2 (Ky.lts_lt h) (by omega)]
  have t' : Tabs K (c ++ [.lst (nats y.lts)]) := t.app
  cases y with
  | num k => exact kor_num_ok h at_end
  | wrd w =>
    have hw : Wd w := h
    have e := kor_word (K := K) (n := c.length) (init := w.map (· - 96)) (c := c ++ [.lst (nats (Ky.wrd w).lts)]) t'.t0 t'.t1 at_end (by
      rw [List.all_eq_true]
      intro s hs
      obtain ⟨k, hk, rfl⟩ := List.mem_map.mp hs
      have := hw.al k hk
      simp [okL]; omega) (by rw [List.length_map]; have := hw.hi; omega)
    rw [List.length_map, if_pos ⟨hw.lo, hw.hi⟩] at e
    have em : (w.map (· - 96)).map (· + 96) = w := by
      rw [List.map_map]
      refine (List.map_congr_left fun k hk => ?_).trans (List.map_id w)
      have := hw.al k hk
      show k - 96 + 96 = k
      omega
    rw [em] at e
    exact e
/-- bits that no key has -/
def Bent (K : PySem.W.Frag) (y : Ky) (d : D) : Prop := ∀ c, Tabs K c → ∃ x, F_key_of_bits K [.str y.fam, d] c = .err (badD K "bits") (c ++ x)
theorem bent_non {y : Ky} : Bent K y .non := fun c _ => ⟨[], by rw [kob_err0 (.inl rfl), List.append_nil]⟩
theorem bent_lst {y : Ky} {l : List D} : Bent K y (.lst l) := fun c _ => ⟨[], by rw [kob_err0 (.inr ⟨l, rfl⟩), List.append_nil]⟩
/-- rows that no key has -/
def RowBad : Ky → List Nat → Prop
  | .num _, rows => rows.length ≠ 4
  | .wrd _, rows => rows = [] ∨ (∃ init x, rows = init ++ [x] ∧ (x ≠ 0 ∨ init.all okL = false)) ∨ ∃ init, rows = init ++ [0] ∧ init.all okL = true ∧ ¬ (1 ≤ init.length ∧ init.length ≤ 12)
theorem bent_rows {y : Ky} {rows : List Nat} (hr : ∀ n ∈ rows, n < 2 ^ y.wid) (hl : rows.length ≤ 30) (hb : RowBad y rows) : Bent K y (.tup (nats (bts y.wid rows))) := fun c t => by
  refine ⟨[.lst (nats rows)], ?_⟩
  rw [kob_rows t.t2 hr hl]
  have t' : Tabs K (c ++ [.lst (nats rows)]) := t.app
  cases y with
  | num k => exact kor_num_err at_end hb
  | wrd w =>
    rcases hb with rfl | ⟨init, x, rfl, h⟩ | ⟨init, rfl, h1, h2⟩
    · exact kor_w_err t'.t1 at_end (.inl rfl)
    · exact kor_w_err t'.t1 at_end (.inr ⟨init, x, rfl, h⟩)
    · have e := kor_word (K := K) (n := c.length) (init := init) (c := c ++ [.lst (nats (init ++ [0]))]) t'.t0 t'.t1 at_end h1 (by rw [List.length_append] at hl; omega)
      rw [if_neg h2] at e
      exact e
theorem bent_len {y : Ky} {l : List Nat} (h : ∀ n ∈ l, n < 2) (hl : l.length % y.wid ≠ 0) : Bent K y (.tup (nats l)) := fun c t => by
  obtain ⟨h1, h2, _⟩ := bit_el h
  exact ⟨[], by rw [kob_err2 t.t2 h1 h2 (.inl (by rw [nats_len]; exact hl)), List.append_nil]⟩
theorem bent_two {y : Ky} {l : List Nat} (h : ∀ n ∈ l, n < 2) : Bent K y (.tup (nats l ++ [.int 2])) := fun c t => by
  obtain ⟨h1, h2, _⟩ := bit_el h
  have hE : ∀ d ∈ nats l ++ [.int 2], El d := fun d hd => by
    rcases List.mem_append.mp hd with hd | hd
    · exact h1 d hd
    · simp at hd; subst hd; exact .inr (.inr (.inl rfl))
  have hq : (nats l ++ [D.int 2]).all q1 = false := by
    rw [List.all_append]; simp [q1]
  exact ⟨[], by rw [kob_err1 t.t2 hE hq, List.append_nil]⟩
theorem bent_true {y : Ky} {l : List Nat} (h : ∀ n ∈ l, n < 2) : Bent K y (.tup (nats l ++ [.bl true])) := fun c t => by
  obtain ⟨h1, h2, _⟩ := bit_el h
  have hE : ∀ d ∈ nats l ++ [.bl true], El d := fun d hd => by
    rcases List.mem_append.mp hd with hd | hd
    · exact h1 d hd
    · simp at hd; subst hd; exact .inr (.inr (.inr rfl))
  have hq : (nats l ++ [D.bl true]).all q1 = true := by
    rw [List.all_append, h2]; rfl
  have hq2 : (nats l ++ [D.bl true]).any q2 = true := by
    rw [List.any_append]; simp [q2]
  exact ⟨[], by rw [kob_err2 t.t2 hE hq (.inr hq2), List.append_nil]⟩
end K01

set_option Elab.async false
set_option linter.all false
set_option maxRecDepth 100000
set_option maxHeartbeats 4000000
/-! ## the plain law of k01: refusals -/
namespace K01
open PySem PySem.Spec PyProof.Rows L2 RL
variable {K : PySem.W.Frag}
theorem pick_call {ds : List Int} {f : FE} {s : Sl} {c : Cs} {l : List D} (h : f s c = .ok (.lst l) c) (hr : Row K ds c) (h0 : s[0]? = some (some (.cel 4))) (hl : 0 < l.length) (hl2 : l.length < 1073741824) :
    ∃ d c', eCall (F__law_pick K) (aCons (eVar 0) (aCons f aNil)) s c = .ok d c' ∧ d ∈ l ∧ Row K ds c' := by
  obtain ⟨d, c', e, h1, h2⟩ := pick_ok hr hl hl2
  refine ⟨d, c', ?_, h1, h2⟩
  simp only [eCall, aCons, aNil, eVar, h0, h, Res.bind_ok, e]
abbrev badT (nm : Str) : D := .tup [.str "bad", .str nm, .bl true]
theorem lam_bad {f : FE} {s : Sl} {c c1 : Cs} {nm : Str} (ht : hasTab c 3 (tb K 3) "_law_refused.<locals>.<lambda>" = true) (h : f s c = .err (badD K nm) c1) : eLam 3 (tb K 3) "_law_refused.<locals>.<lambda>" (CB K) (CR K) f s c = .ok (badT nm) c1 := by
  unfold eLam
  rw [if_pos ht, h]
  simp [heardR]
theorem Pl.bad {n : Nat} {nm : Str} (h : PyData.strOk nm = true) : Pl (n + 2) (badT nm) := .tup (by show 3 ≤ 100000; decide) fun x hx => by
  simp at hx
  rcases hx with rfl | rfl | rfl
  · exact .str (by decide +kernel)
  · exact .str h
  · exact .bl
theorem bad_fams {s : Sl} {c : Cs} : eLst (aCons (eC .non) (aCons (eC (.str "bits")) (aCons (eC (.int 0)) (aCons (eC (.str "")) aNil)))) s c = .ok (.lst [.non, .str "bits", .int 0, .str ""]) c := by
  simp [eLst, aCons, aNil, eC]
theorem wrong_keys {s : Sl} {c : Cs} : eLst (aCons (eC .non) (aCons (eNeg (eC (.int 1))) (aCons (eC (.int 65536)) (aCons (eC (.bl true)) (aCons (eC (.str "")) (aCons (eC (.str "A")) (aCons (eC (.str "abcdefghijklm")) (aCons (eTup aNil) (aCons (eTup (aCons (eC (.int 7)) aNil)) aNil))))))))) s c = .ok (.lst [.non, .int (-1), .int 65536, .bl true, .str "", .str "A", .str "abcdefghijklm", .tup [], .tup [.int 7]]) c := by
  simp [eLst, aCons, aNil, eC, eNeg, eTup]
theorem cut_m1 {B : List Nat} (h : B ≠ []) : RL.cutD (nats B) none (some (-1)) = nats B.dropLast := by
  have e := List.dropLast_concat_getLast h
  conv => lhs; rw [← e]
  exact cut_init
/-- what is bent, of each family -/
def bentL (B : List Nat) : List D := [.non, .tup [], .tup (nats B.dropLast), .tup (nats B ++ nats B), .lst (nats B), .tup (nats B.dropLast ++ [.int 2]), .tup (nats B.dropLast ++ [.bl true])]
theorem bent_all {y : Ky} (hy : y.Ok) : ∀ d ∈ bentL (bts y.wid y.lts), Bent K y d := by
  have hl := Ky.lts_len hy
  have hlt := Ky.lts_lt hy
  have hB : ∀ n ∈ bts y.wid y.lts, n < 2 := bts_lt
  have hD : ∀ n ∈ (bts y.wid y.lts).dropLast, n < 2 := fun n hn => hB n (List.dropLast_subset _ hn)
  have hlen : (bts y.wid y.lts).length = y.wid * y.lts.length := K01.bts_len _ _
  have hpos : 0 < y.wid * y.lts.length := Nat.mul_pos (by rcases y.wid_of with e | e <;> omega) (by omega)
  intro d hd
  simp only [bentL, List.mem_cons, List.not_mem_nil, or_false] at hd
  rcases hd with rfl | rfl | rfl | rfl | rfl | rfl | rfl
  · exact bent_non
  · have : (D.tup [] : D) = .tup (nats (bts y.wid [])) := rfl
    rw [this]
    refine bent_rows (by simp) (by simp) ?_
    cases y with
    | num k => simp [RowBad]
    | wrd w => exact .inl rfl
  · refine bent_len hD ?_
    rw [List.length_dropLast, hlen]
    rcases y.wid_of with e | e <;> rw [e] at hpos ⊢ <;> omega
  · rw [← nats_app, ← bts_app]
    refine bent_rows (fun n hn => ?_) (by rw [List.length_append]; omega) ?_
    · rcases List.mem_append.mp hn with h | h <;> exact hlt n h
    · cases y with
      | num k => simp [RowBad, Ky.lts]
      | wrd w =>
        refine .inr (.inl ⟨(Ky.wrd w).lts ++ w.map (· - 96), 0, by simp [Ky.lts], .inr ?_⟩)
        rw [List.all_append]
        simp [Ky.lts, okL]
  · exact bent_lst
  · exact bent_two hD
  · exact bent_true hD
def moreL : Ky → List D
  | .wrd w => [.tup (nats (bts 5 (List.replicate 13 0))), .tup (nats (bts 5 [31, 0])), .tup (nats (bts 5 (w.map (· - 96)))), .tup (nats (bts 5 [0])), .tup (nats (bts 5 (List.replicate 13 1 ++ [0])))]
  | .num k => [.tup (nats (bts 4 [k / 4096 % 16, k / 256 % 16, k / 16 % 16])), .tup (nats (bts 4 ([k / 4096 % 16, k / 256 % 16, k / 16 % 16, k % 16] ++ [0])))]
theorem more_all {y : Ky} (hy : y.Ok) : ∀ d ∈ moreL y, Bent K y d := by
  intro d hd
  cases y with
  | num k =>
    simp only [moreL, List.mem_cons, List.not_mem_nil, or_false] at hd
    rcases hd with rfl | rfl
    · refine bent_rows (y := .num k) (fun n hn => ?_) (by simp) (by simp [RowBad])
      simp at hn
      simp [Ky.wid]; omega
    · refine bent_rows (y := .num k) (fun n hn => ?_) (by simp) (by simp [RowBad])
      simp at hn
      simp [Ky.wid]; omega
  | wrd w =>
    have hw : Wd w := hy
    simp only [moreL, List.mem_cons, List.not_mem_nil, or_false] at hd
    rcases hd with rfl | rfl | rfl | rfl | rfl
    · exact bent_rows (y := .wrd w) (show ∀ n ∈ (List.replicate 13 0 : List Nat), n < 2 ^ 5 by decide) (by decide) (.inr (.inl ⟨List.replicate 12 0, 0, by decide, .inr (by decide)⟩))
    · exact bent_rows (y := .wrd w) (show ∀ n ∈ ([31, 0] : List Nat), n < 2 ^ 5 by decide) (by decide) (.inr (.inl ⟨[31], 0, by decide, .inr (by decide)⟩))
    · refine bent_rows (y := .wrd w) (fun n hn => ?_) (by rw [List.length_map]; have := hw.hi; omega) (.inr (.inl ?_))
      · obtain ⟨k, hk, rfl⟩ := List.mem_map.mp hn
        have := hw.al k hk
        simp [Ky.wid]; omega
      · have hne : w.map (· - 96) ≠ [] := by
          intro e
          have := hw.lo
          have e2 := congrArg List.length e
          simp at e2
          subst e2
          simp at this
        refine ⟨(w.map (· - 96)).dropLast, (w.map (· - 96)).getLast hne, (List.dropLast_concat_getLast hne).symm, .inl ?_⟩
        have hm := List.getLast_mem hne
        obtain ⟨k, hk, e⟩ := List.mem_map.mp hm
        have := hw.al k hk
        rw [← e]; omega
    · exact bent_rows (y := .wrd w) (show ∀ n ∈ ([0] : List Nat), n < 2 ^ 5 by decide) (by decide) (.inr (.inr ⟨[], rfl, rfl, by decide⟩))
    · exact bent_rows (y := .wrd w) (show ∀ n ∈ (List.replicate 13 1 ++ [0] : List Nat), n < 2 ^ 5 by decide) (by decide) (.inr (.inr ⟨List.replicate 13 1, rfl, by decide, by decide⟩))
end K01

set_option Elab.async false
set_option linter.all false
set_option maxRecDepth 100000
set_option maxHeartbeats 4000000
/-! ## the plain law of k01: refusals heard -/
namespace K01
open PySem PySem.Spec PyProof.Rows L2 RL
variable {K : PySem.W.Frag}
theorem eLst4 {f1 f2 f3 f4 : FE} {d1 d2 d3 d4 : D} {s : Sl} {c : Cs} (h1 : f1 s c = .ok d1 c) (h2 : f2 s c = .ok d2 c) (h3 : f3 s c = .ok d3 c) (h4 : f4 s c = .ok d4 c) : eLst (aCons f1 (aCons f2 (aCons f3 (aCons f4 aNil)))) s c = .ok (.lst [d1, d2, d3, d4]) c := by
  simp [eLst, aCons, aNil, h1, h2, h3, h4]
theorem bad_tup {nm : Str} {s : Sl} {c : Cs} : eTup (aCons (eC (.str "bad")) (aCons (eC (.str nm)) (aCons (eC (.bl true)) aNil))) s c = .ok (badT nm) c := by
  simp [eTup, aCons, aNil, eC]
theorem bts_ne {y : Ky} (hy : y.Ok) : bts y.wid y.lts ≠ [] := by
  have hl := Ky.lts_len hy
  have hpos : 0 < y.wid * y.lts.length := Nat.mul_pos (by rcases y.wid_of with e | e <;> omega) (by omega)
  intro e
  have := congrArg List.length e
  rw [K01.bts_len] at this
  simp at this
  omega
theorem e_cut {a0 a1 a2 a4 a5 a6 a7 a8 : Option D} {B : List Nat} {c : Cs} (h : B ≠ []) : eSl (eVar 3) pNone (pSome (eNeg (eC (.int 1)))) [a0, a1, a2, some (.tup (nats B)), a4, a5, a6, a7, a8] c = .ok (.tup (nats B.dropLast)) c := by
  simp only [eSl, eVar, List.getElem?_cons_succ, List.getElem?_cons_zero, Res.bind_ok, m1_ok, none_ok, oSl, cut_m1 h]
theorem e_bent {a0 a1 a2 a4 a5 a6 a7 a8 : Option D} {B : List Nat} {c : Cs} (h : B ≠ []) (hl : B.length ≤ 65) :
    eLst (aCons (eC .non) (aCons (eTup aNil) (aCons (eSl (eVar 3) pNone (pSome (eNeg (eC (.int 1))))) (aCons (eOp oAdd (eVar 3) (eVar 3)) (aCons (eCall fList (aCons (eVar 3) aNil)) (aCons (eOp oAdd (eSl (eVar 3) pNone (pSome (eNeg (eC (.int 1))))) (eTup (aCons (eC (.int 2)) aNil))) (aCons (eOp oAdd (eSl (eVar 3) pNone (pSome (eNeg (eC (.int 1))))) (eTup (aCons (eC (.bl true)) aNil))) aNil))))))) [a0, a1, a2, some (.tup (nats B)), a4, a5, a6, a7, a8] c = .ok (.lst (bentL B)) c := by
  have h1 : (nats B).length + (nats B).length ≤ 100000 := by rw [nats_len]; omega
  have h2 : (nats B.dropLast).length + 1 ≤ 100000 := by rw [nats_len, List.length_dropLast]; omega
  have ec := e_cut (a0 := a0) (a1 := a1) (a2 := a2) (a4 := a4) (a5 := a5) (a6 := a6) (a7 := a7) (a8 := a8) (c := c) h
  have e1 : eOp oAdd (eVar 3) (eVar 3) [a0, a1, a2, some (.tup (nats B)), a4, a5, a6, a7, a8] c = .ok (.tup (nats B ++ nats B)) c := by
    simp [eOp, eVar, oAdd, h1]
  have e2 : eCall fList (aCons (eVar 3) aNil) [a0, a1, a2, some (.tup (nats B)), a4, a5, a6, a7, a8] c = .ok (.lst (nats B)) c := rfl
  have e3 : eOp oAdd (eSl (eVar 3) pNone (pSome (eNeg (eC (.int 1))))) (eTup (aCons (eC (.int 2)) aNil)) [a0, a1, a2, some (.tup (nats B)), a4, a5, a6, a7, a8] c = .ok (.tup (nats B.dropLast ++ [.int 2])) c := by
    rw [eOp, ec]
    simp [eTup, aCons, aNil, eC, oAdd, h2]
  have e4 : eOp oAdd (eSl (eVar 3) pNone (pSome (eNeg (eC (.int 1))))) (eTup (aCons (eC (.bl true)) aNil)) [a0, a1, a2, some (.tup (nats B)), a4, a5, a6, a7, a8] c = .ok (.tup (nats B.dropLast ++ [.bl true])) c := by
    rw [eOp, ec]
    simp [eTup, aCons, aNil, eC, oAdd, h2]
  have e5 : eTup aNil [a0, a1, a2, some (.tup (nats B)), a4, a5, a6, a7, a8] c = .ok (.tup []) c := by simp [eTup, aNil]
  simp only [eLst, aCons, aNil, ec, e1, e2, e3, e4, e5, Res.bind_ok, eC]
  simp [bentL]
abbrev moreE : FE := eIf (tsE (eOp oEq (eVar 1) (eC (.str "words")))) (eLst (aCons (eOp oMulA (eTup (aCons (eC (.int 0)) aNil)) (eC (.int 65))) (aCons (eOp oAdd (eOp oMulA (eTup (aCons (eC (.int 1)) aNil)) (eC (.int 5))) (eOp oMulA (eTup (aCons (eC (.int 0)) aNil)) (eC (.int 5)))) (aCons (eSl (eVar 3) pNone (pSome (eNeg (eC (.int 5))))) (aCons (eOp oMulA (eTup (aCons (eC (.int 0)) aNil)) (eC (.int 5))) (aCons (eOp oAdd (eOp oMulA (eTup (aCons (eC (.int 0)) (aCons (eC (.int 0)) (aCons (eC (.int 0)) (aCons (eC (.int 0)) (aCons (eC (.int 1)) aNil)))))) (eC (.int 13))) (eOp oMulA (eTup (aCons (eC (.int 0)) aNil)) (eC (.int 5)))) aNil)))))) (eLst (aCons (eSl (eVar 3) pNone (pSome (eC (.int 12)))) (aCons (eOp oAdd (eVar 3) (eTup (aCons (eC (.int 0)) (aCons (eC (.int 0)) (aCons (eC (.int 0)) (aCons (eC (.int 0)) aNil)))))) aNil)))
theorem cut_m5 {w : List Nat} : RL.cutD (nats (bts 5 (w ++ [0]))) none (some (-5)) = nats (bts 5 w) := by
  have e : HT.sIx (nats (bts 5 (w ++ [0]))).length (nats (bts 5 (w ++ [0]))).length (some (-5)) = (nats (bts 5 w)).length := by
    show (if (-5 : Int) < 0 then ((-5 : Int) + ((nats (bts 5 (w ++ [0]))).length : Int)).toNat else min (-5 : Int).toNat (nats (bts 5 (w ++ [0]))).length) = _
    rw [if_pos (by decide), nats_len, nats_len, K01.bts_len, K01.bts_len, List.length_append]
    simp; omega
  unfold RL.cutD
  rw [e, HT.sIx_none, bts_app, nats_app]
  simp
theorem rep_of {l : List D} {k : Int} {n : Nat} (hk : k = (n : Int)) (h1 : l ≠ []) (h2 : 2 ≤ k) (h3 : k ≤ 1000) (h4 : l.length ≤ 1000) {c : Cs} : oMulA (.tup l) (.int k) c = .ok (.tup (List.replicate n l).flatten) c := by
  have e : k.toNat = n := by omega
  simp only [oMulA, oMulT, if_pos (show l ≠ [] ∧ 2 ≤ k ∧ k ≤ 1000 ∧ l.length ≤ 1000 from ⟨h1, h2, h3, h4⟩), e]
theorem r65 : (List.replicate 65 [D.int 0]).flatten = nats (bts 5 (List.replicate 13 0)) := by kernel_rfl
theorem r5 : (List.replicate 5 [D.int 1]).flatten ++ (List.replicate 5 [D.int 0]).flatten = nats (bts 5 [31, 0]) := by kernel_rfl
theorem r50 : (List.replicate 5 [D.int 0]).flatten = nats (bts 5 [0]) := by kernel_rfl
theorem r13 : (List.replicate 13 [D.int 0, D.int 0, D.int 0, D.int 0, D.int 1]).flatten ++ (List.replicate 5 [D.int 0]).flatten = nats (bts 5 (List.replicate 13 1 ++ [0])) := by kernel_rfl
theorem c12 {a b x d : Nat} : RL.cutD (nats (bts 4 [a, b, x, d])) none (some 12) = nats (bts 4 [a, b, x]) := by kernel_rfl
theorem p4 {a b x d : Nat} : nats (bts 4 [a, b, x, d]) ++ [.int 0, .int 0, .int 0, .int 0] = nats (bts 4 ([a, b, x, d] ++ [0])) := by kernel_rfl
theorem e_more {y : Ky} (hy : y.Ok) {a0 a2 a4 a5 a6 a7 a8 : Option D} {c : Cs} : moreE [a0, some (.str y.fam), a2, some (.tup (nats (bts y.wid y.lts))), a4, a5, a6, a7, a8] c = .ok (.lst (moreL y)) c := by
  cases y with
  | num k =>
    have ht : tsE (eOp oEq (eVar 1) (eC (.str "words"))) [a0, some (.str (Ky.num k).fam), a2, some (.tup (nats (bts (Ky.num k).wid (Ky.num k).lts))), a4, a5, a6, a7, a8] c = .ok false c := by
      simp [tsE, eOp, eVar, eC, Ky.fam, eq_nw]
    have hl : (nats (bts 4 [k / 4096 % 16, k / 256 % 16, k / 16 % 16, k % 16])).length + 4 ≤ 100000 := by rw [nats_len, K01.bts_len]; simp
    have e1 : eSl (eVar 3) pNone (pSome (eC (.int 12))) [a0, some (.str (Ky.num k).fam), a2, some (.tup (nats (bts (Ky.num k).wid (Ky.num k).lts))), a4, a5, a6, a7, a8] c = .ok (.tup (nats (bts 4 [k / 4096 % 16, k / 256 % 16, k / 16 % 16]))) c := by
      simp only [eSl, eVar, List.getElem?_cons_succ, List.getElem?_cons_zero, Res.bind_ok, none_ok, pSome, eC, oSl, Ky.wid, Ky.lts, c12]
    have e2 : eOp oAdd (eVar 3) (eTup (aCons (eC (.int 0)) (aCons (eC (.int 0)) (aCons (eC (.int 0)) (aCons (eC (.int 0)) aNil))))) [a0, some (.str (Ky.num k).fam), a2, some (.tup (nats (bts (Ky.num k).wid (Ky.num k).lts))), a4, a5, a6, a7, a8] c = .ok (.tup (nats (bts 4 ([k / 4096 % 16, k / 256 % 16, k / 16 % 16, k % 16] ++ [0])))) c := by
      rw [← p4]
      simp [eOp, eVar, eTup, aCons, aNil, eC, oAdd, Ky.wid, Ky.lts, hl]
    unfold moreE eIf
    rw [ht]
    simp only [Res.bind_ok, eLst, aCons, aNil, e1, e2]
    simp [moreL]
  | wrd w =>
    have hw : Wd w := hy
    have ht : tsE (eOp oEq (eVar 1) (eC (.str "words"))) [a0, some (.str (Ky.wrd w).fam), a2, some (.tup (nats (bts (Ky.wrd w).wid (Ky.wrd w).lts))), a4, a5, a6, a7, a8] c = .ok true c := by
      simp [tsE, eOp, eVar, eC, Ky.fam, eq_ww]
    have t0 : ∀ s : Sl, eTup (aCons (eC (.int 0)) aNil) s c = .ok (.tup [.int 0]) c := fun s => by simp [eTup, aCons, aNil, eC]
    have t1 : ∀ s : Sl, eTup (aCons (eC (.int 1)) aNil) s c = .ok (.tup [.int 1]) c := fun s => by simp [eTup, aCons, aNil, eC]
    have t5 : ∀ s : Sl, eTup (aCons (eC (.int 0)) (aCons (eC (.int 0)) (aCons (eC (.int 0)) (aCons (eC (.int 0)) (aCons (eC (.int 1)) aNil))))) s c = .ok (.tup [.int 0, .int 0, .int 0, .int 0, .int 1]) c := fun s => by simp [eTup, aCons, aNil, eC]
    have m65 := rep_of (l := [.int 0]) (k := 65) (n := 65) rfl (by simp) (by decide) (by decide) (by decide) (c := c)
    have m50 := rep_of (l := [.int 0]) (k := 5) (n := 5) rfl (by simp) (by decide) (by decide) (by decide) (c := c)
    have m51 := rep_of (l := [.int 1]) (k := 5) (n := 5) rfl (by simp) (by decide) (by decide) (by decide) (c := c)
    have m13 := rep_of (l := [.int 0, .int 0, .int 0, .int 0, .int 1]) (k := 13) (n := 13) rfl (by simp) (by decide) (by decide) (by decide) (c := c)
    have x1 : ∀ s : Sl, eOp oMulA (eTup (aCons (eC (.int 0)) aNil)) (eC (.int 65)) s c = .ok (.tup (nats (bts 5 (List.replicate 13 0)))) c := fun s => by
      rw [← r65, eOp, t0, Res.bind_ok]; exact m65
    have x0 : ∀ s : Sl, eOp oMulA (eTup (aCons (eC (.int 0)) aNil)) (eC (.int 5)) s c = .ok (.tup (List.replicate 5 [D.int 0]).flatten) c := fun s => by
      rw [eOp, t0, Res.bind_ok]; exact m50
    have x2 : ∀ s : Sl, eOp oAdd (eOp oMulA (eTup (aCons (eC (.int 1)) aNil)) (eC (.int 5))) (eOp oMulA (eTup (aCons (eC (.int 0)) aNil)) (eC (.int 5))) s c = .ok (.tup (nats (bts 5 [31, 0]))) c := fun s => by
      have y1 : eOp oMulA (eTup (aCons (eC (.int 1)) aNil)) (eC (.int 5)) s c = .ok (.tup (List.replicate 5 [D.int 1]).flatten) c := by
        rw [eOp, t1, Res.bind_ok]; exact m51
      rw [eOp, y1, Res.bind_ok, x0, Res.bind_ok, ← r5]
      simp [oAdd]
    have x4 : ∀ s : Sl, eOp oMulA (eTup (aCons (eC (.int 0)) aNil)) (eC (.int 5)) s c = .ok (.tup (nats (bts 5 [0]))) c := fun s => by rw [x0, r50]
    have x5 : ∀ s : Sl, eOp oAdd (eOp oMulA (eTup (aCons (eC (.int 0)) (aCons (eC (.int 0)) (aCons (eC (.int 0)) (aCons (eC (.int 0)) (aCons (eC (.int 1)) aNil)))))) (eC (.int 13))) (eOp oMulA (eTup (aCons (eC (.int 0)) aNil)) (eC (.int 5))) s c = .ok (.tup (nats (bts 5 (List.replicate 13 1 ++ [0])))) c := fun s => by
      have y1 : eOp oMulA (eTup (aCons (eC (.int 0)) (aCons (eC (.int 0)) (aCons (eC (.int 0)) (aCons (eC (.int 0)) (aCons (eC (.int 1)) aNil)))))) (eC (.int 13)) s c = .ok (.tup (List.replicate 13 [D.int 0, D.int 0, D.int 0, D.int 0, D.int 1]).flatten) c := by
        rw [eOp, t5, Res.bind_ok]; exact m13
      rw [eOp, y1, Res.bind_ok, x0, Res.bind_ok, ← r13]
      simp [oAdd]
    have hm5 : ∀ s : Sl, pSome (eNeg (eC (.int 5))) s c = .ok (some (-5)) c := fun s => by simp [pSome, eNeg, eC]
    have x3 : eSl (eVar 3) pNone (pSome (eNeg (eC (.int 5)))) [a0, some (.str (Ky.wrd w).fam), a2, some (.tup (nats (bts (Ky.wrd w).wid (Ky.wrd w).lts))), a4, a5, a6, a7, a8] c = .ok (.tup (nats (bts 5 (w.map (· - 96))))) c := by
      simp only [eSl, eVar, List.getElem?_cons_succ, List.getElem?_cons_zero, Res.bind_ok, none_ok, hm5, oSl, Ky.wid, Ky.lts, cut_m5]
    unfold moreE eIf
    rw [ht]
    simp only [Res.bind_ok, if_true, eLst, aCons, aNil, x1, x2, x3, x4, x5]
    simp [moreL]
end K01

set_option Elab.async false
set_option linter.all false
set_option maxRecDepth 100000
set_option maxHeartbeats 4000000
/-! ## the plain law of k01: the end -/
namespace K01
open PySem PySem.Spec PyProof.Rows L2 RL
variable {K : PySem.W.Frag}
theorem alike_call {n : Nat} {f g : FE} {s : Sl} {c c1 c2 : Cs} {d : D} (h1 : f s c = .ok d c1) (h2 : g s c1 = .ok d c2) (p : Pl n d) : eCall (F__law_alike K n) (aCons f (aCons g aNil)) s c = .ok (.bl true) c2 := by
  simp only [eCall, aCons, aNil, h1, h2, Res.bind_ok, alike_refl n d c2 p]
theorem alike_not {n : Nat} {f g : FE} {s : Sl} {c c1 c2 : Cs} {d : D} (h1 : f s c = .ok d c1) (h2 : g s c1 = .ok d c2) (p : Pl n d) : tsNot (tsE (eCall (F__law_alike K n) (aCons f (aCons g aNil)))) s c = .ok false c2 := by
  refine tsNot_t ?_
  rw [tsE, alike_call h1 h2 p, Res.bind_ok]
theorem mkF_4 {m : Nat} {b : FS} {d1 d2 d3 d4 : D} {c : Cs} : mkF 4 m b [d1, d2, d3, d4] c = fin (b (startD 4 m [d1, d2, d3, d4]) c) := if_pos rfl
theorem refused_ok {ds : List Int} {c : Cs} {y : Ky} (hr : Row K ds c) (hy : y.Ok) : ∃ c', F__law_refused K [.cel 4, .str y.fam, y.dat, .tup (nats (bts y.wid y.lts))] c = .ok (.bl true) c' := by
  have hB := bts_ne hy
  have hB2 := Ky.bts_len hy
  have hst : startD 4 9 [.cel 4, .str y.fam, y.dat, .tup (nats (bts y.wid y.lts))] = [some (.cel 4), some (.str y.fam), some y.dat, some (.tup (nats (bts y.wid y.lts))), none, none, none, none, none] := rfl
  obtain ⟨bad, c1, e1, m1, hr1⟩ := pick_call (K := K) (s := [some (.cel 4), some (.str y.fam), some y.dat, some (.tup (nats (bts y.wid y.lts))), none, none, none, none, none]) bad_fams hr rfl (by decide) (by decide)
  have hbad : NoFam bad := by simpa [NoFam] using m1
  obtain ⟨wrong, c2, e2, m2, hr2⟩ := pick_call (K := K) (s := [some (.cel 4), some (.str y.fam), some y.dat, some (.tup (nats (bts y.wid y.lts))), some bad, none, none, none, none]) wrong_keys hr1 rfl (by decide) (by decide)
  have hwrong : Wrong wrong := by simpa [Wrong] using m2
  have s3 : ∀ nm f, f [some (.cel 4), some (.str y.fam), some y.dat, some (.tup (nats (bts y.wid y.lts))), some bad, some wrong, none, none, none] c2 = .err (badD K nm) c2 → eLam 3 (tb K 3) "_law_refused.<locals>.<lambda>" (CB K) (CR K) f [some (.cel 4), some (.str y.fam), some y.dat, some (.tup (nats (bts y.wid y.lts))), some bad, some wrong, none, none, none] c2 = .ok (badT nm) c2 := fun nm f h => lam_bad hr2.tab3 h
  have e3 := eLst4 (s3 "family" (eCall (F_letters_of K) (aCons (eVar 4) (aCons (eVar 5) aNil))) (letters_f hbad)) (s3 "key" (eCall (F_bits_of K) (aCons (eVar 1) (aCons (eVar 5) aNil))) (bits_f hr2.tab0 hwrong))
    (s3 "one" (eCall (F_first_unlike K) (aCons (eVar 1) (aCons (eVar 5) (aCons (eVar 5) aNil)))) (unlike_f1 hr2.tab0 hwrong)) (s3 "other" (eCall (F_first_unlike K) (aCons (eVar 1) (aCons (eVar 2) (aCons (eVar 5) aNil)))) (unlike_f2 hr2.tab0 hy hwrong))
  have hpl : Pl 4 (.lst [badT "family", badT "key", badT "one", badT "other"]) := .lst (by show 4 ≤ 100000; decide) fun x hx => by
    simp at hx
    rcases hx with rfl | rfl | rfl | rfl <;> exact Pl.bad (n := 1) (by decide +kernel)
  have e4 := alike_not (K := K) (n := 4) (f := eVar 6) (s := [some (.cel 4), some (.str y.fam), some y.dat, some (.tup (nats (bts y.wid y.lts))), some bad, some wrong, some (.lst [badT "family", badT "key", badT "one", badT "other"]), none, none]) (c := c2) rfl (eLst4 bad_tup bad_tup bad_tup bad_tup) hpl
  have e5 := e_bent (a0 := some (.cel 4)) (a1 := some (.str y.fam)) (a2 := some y.dat) (a4 := some bad) (a5 := some wrong) (a6 := some (.lst [badT "family", badT "key", badT "one", badT "other"])) (a7 := none) (a8 := none) (c := c2) hB hB2
  have e6m := e_more hy (a0 := some (.cel 4)) (a2 := some y.dat) (a4 := some bad) (a5 := some wrong) (a6 := some (.lst [badT "family", badT "key", badT "one", badT "other"])) (a7 := some (.lst (bentL (bts y.wid y.lts)))) (a8 := none) (c := c2)
  have hlen : (bentL (bts y.wid y.lts)).length + (moreL y).length ≤ 100000 := by cases y <;> simp [bentL, moreL]
  have e6 : eOp oAdd (eVar 7) moreE [some (.cel 4), some (.str y.fam), some y.dat, some (.tup (nats (bts y.wid y.lts))), some bad, some wrong, some (.lst [badT "family", badT "key", badT "one", badT "other"]), some (.lst (bentL (bts y.wid y.lts))), none] c2 = .ok (.lst (bentL (bts y.wid y.lts) ++ moreL y)) c2 := by
    have : eOp oAdd (eVar 7) moreE [some (.cel 4), some (.str y.fam), some y.dat, some (.tup (nats (bts y.wid y.lts))), some bad, some wrong, some (.lst [badT "family", badT "key", badT "one", badT "other"]), some (.lst (bentL (bts y.wid y.lts))), none] c2 = (moreE [some (.cel 4), some (.str y.fam), some y.dat, some (.tup (nats (bts y.wid y.lts))), some bad, some wrong, some (.lst [badT "family", badT "key", badT "one", badT "other"]), some (.lst (bentL (bts y.wid y.lts))), none] c2).bind fun e c2 => oAdd (.lst (bentL (bts y.wid y.lts))) e c2 := rfl
    rw [this, e6m]
    simp only [Res.bind_ok, oAdd, RL.listOf, if_pos hlen]
  obtain ⟨d, c3, e7, m7, hr3⟩ := pick_call (K := K) (f := eVar 7) (l := bentL (bts y.wid y.lts) ++ moreL y) (s := [some (.cel 4), some (.str y.fam), some y.dat, some (.tup (nats (bts y.wid y.lts))), some bad, some wrong, some (.lst [badT "family", badT "key", badT "one", badT "other"]), some (.lst (bentL (bts y.wid y.lts) ++ moreL y)), none]) (c := c2) rfl hr2 rfl (by simp [bentL]) (by rw [List.length_append]; omega)
  have hbent : Bent K y d := by
    rcases List.mem_append.mp m7 with h | h
    · exact bent_all hy d h
    · exact more_all hy d h
  obtain ⟨x, e8⟩ := hbent c3 hr3.tabs
  have e9 := alike_call (K := K) (n := 4) (f := eLam 3 (tb K 3) "_law_refused.<locals>.<lambda>" (CB K) (CR K) (eCall (F_key_of_bits K) (aCons (eVar 1) (aCons (eVar 8) aNil)))) (s := [some (.cel 4), some (.str y.fam), some y.dat, some (.tup (nats (bts y.wid y.lts))), some bad, some wrong, some (.lst [badT "family", badT "key", badT "one", badT "other"]), some (.lst (bentL (bts y.wid y.lts) ++ moreL y)), some d]) (c := c3)
    (lam_bad (nm := "bits") hr3.tab3 e8) bad_tup (Pl.bad (n := 2) (by decide +kernel))
  have key : b__law_refused K [some (.cel 4), some (.str y.fam), some y.dat, some (.tup (nats (bts y.wid y.lts))), none, none, none, none, none] c = .rt (.bl true) (c3 ++ x) := by
    unfold b__law_refused
    refine (sSeq_nx (sAsg_nm e1)).trans ?_
    refine (sSeq_nx (sAsg_nm e2)).trans ?_
    refine (sSeq_nx (sAsg_nm e3)).trans ?_
    refine (sSeq_nx (sIf_fn e4)).trans ?_
    refine (sSeq_nx (sAsg_nm e5)).trans ?_
    refine (sSeq_nx (sAsg_nm e6)).trans ?_
    refine (sSeq_nx (sAsg_nm e7)).trans ?_
    exact sRet_ok e9
  refine ⟨c3 ++ x, ?_⟩
  unfold F__law_refused
  rw [mkF_4, hst, key]
  rfl
end K01

set_option Elab.async false
set_option linter.all false
set_option maxRecDepth 100000
set_option maxHeartbeats 4000000
/-! ## the plain law of k01 -/
namespace K01
open PySem PySem.Spec PyProof.Rows L2 RL
variable {K : PySem.W.Frag}
theorem sPar_ok {i j : Nat} {f : FA} {s : Sl} {c c1 : Cs} {d e : D} (h : f s c = .ok [d, e] c1) : sPar i j f s c = .nx ((s.set i (some d)).set j (some e)) c1 := by
  unfold sPar; rw [h]; rfl
theorem sAsg_67 {f : FE} {s : Sl} {c c1 : Cs} {d e : D} (h : f s c = .ok (.tup [d, e]) c1) : sAsg f (gtTup [6, 7]) s c = .nx ((s.set 6 (some d)).set 7 (some e)) c1 := by
  unfold sAsg; rw [h]; rfl
theorem eLst2 {f1 f2 : FE} {d1 d2 : D} {s : Sl} {c c1 c2 : Cs} (h1 : f1 s c = .ok d1 c1) (h2 : f2 s c1 = .ok d2 c2) : eLst (aCons f1 (aCons f2 aNil)) s c = .ok (.lst [d1, d2]) c2 := by
  simp [eLst, aCons, aNil, h1, h2]
theorem eTup2 {f1 f2 : FE} {d1 d2 : D} {s : Sl} {c c1 c2 : Cs} (h1 : f1 s c = .ok d1 c1) (h2 : f2 s c1 = .ok d2 c2) : eTup (aCons f1 (aCons f2 aNil)) s c = .ok (.tup [d1, d2]) c2 := by
  simp [eTup, aCons, aNil, h1, h2]
theorem aCons2 {f1 f2 : FE} {d1 d2 : D} {s : Sl} {c c1 c2 : Cs} (h1 : f1 s c = .ok d1 c1) (h2 : f2 s c1 = .ok d2 c2) : aCons f1 (aCons f2 aNil) s c = .ok [d1, d2] c2 := by
  simp [aCons, aNil, h1, h2]
theorem mkF_1 {m : Nat} {b : FS} {d1 : D} {c : Cs} : mkF 1 m b [d1] c = fin (b (startD 1 m [d1]) c) := if_pos rfl
theorem pl_two {y : Ky} (h : y.Ok) : Pl 4 (.lst [.tup (nats y.lts), .tup (nats (bts y.wid y.lts))]) := .lst (by show 2 ≤ 100000; decide) fun x hx => by
  have h1 := Ky.lts_len h
  have h2 := Ky.bts_len h
  simp at hx
  rcases hx with rfl | rfl
  · exact Pl.nats (n := 1) (by omega)
  · exact Pl.nats (n := 1) (by omega)
theorem law_ok (ns : List Int) : ∃ c', F_law K [.scr (ns.map D.int)] (cells0 K tfs) = .ok (.bl true) c' := by
  have hst : startD 1 9 [.scr (ns.map D.int)] = [some (.scr (ns.map D.int)), none, none, none, none, none, none, none, none] := rfl
  have e1 : eNew (aCons (eVar 0) (aCons (eC (.int 0)) (aCons (eC (.int 7401501)) (aCons (eC (.int 0)) aNil)))) [some (.scr (ns.map D.int)), none, none, none, none, none, none, none, none] (cells0 K tfs) = .ok (.cel 4) (cells0 K tfs ++ [.lst [.scr (ns.map .int), .int 0, .int 7401501, .int 0]]) := by
    have hl : (cells0 K tfs).length = 4 := rfl
    simp [eNew, aCons, aNil, eVar, eC, hl]
  have hr0 := Row.start (K := K) ns
  obtain ⟨f, c1, e2', hf0, hr1⟩ := family_ok hr0
  have e2 : eCall (F__law_family K) (aCons (eVar 1) aNil) [some (.scr (ns.map D.int)), some (.cel 4), none, none, none, none, none, none, none] (cells0 K tfs ++ [.lst [.scr (ns.map .int), .int 0, .int 7401501, .int 0]]) = .ok (.str f) c1 := e2'
  obtain ⟨d4, c2, e3a', hk4, hr2⟩ := key_ok hr1 hf0
  obtain ⟨d5, c3, e3b', hk5, hr3⟩ := key_ok hr2 hf0
  obtain ⟨y, hy, rfl, rfl⟩ := ky_of hk4
  obtain ⟨z, hz, hf, rfl⟩ := ky_of hk5
  have e3 : aCons (eCall (F__law_key K) (aCons (eVar 1) (aCons (eVar 2) aNil))) (aCons (eCall (F__law_key K) (aCons (eVar 1) (aCons (eVar 2) aNil))) aNil) [some (.scr (ns.map D.int)), some (.cel 4), some (.str y.fam), none, none, none, none, none, none] c1 = .ok [y.dat, z.dat] c3 := aCons2 e3a' e3b'
  have lbz : F__law_bits K [.str y.fam, z.dat] c3 = .ok (.tup (nats (bts z.wid z.lts))) c3 := by rw [hf]; exact lawbits_ok hz
  have e4 : eTup (aCons (eCall (F__law_bits K) (aCons (eVar 2) (aCons (eVar 4) aNil))) (aCons (eCall (F__law_bits K) (aCons (eVar 2) (aCons (eVar 5) aNil))) aNil)) [some (.scr (ns.map D.int)), some (.cel 4), some (.str y.fam), none, some y.dat, some z.dat, none, none, none] c3 = .ok (.tup [.tup (nats (bts y.wid y.lts)), .tup (nats (bts z.wid z.lts))]) c3 := eTup2 (lawbits_ok hy) lbz
  have t3 := hr3.tabs
  let S : Sl := [some (.scr (ns.map D.int)), some (.cel 4), some (.str y.fam), none, some y.dat, some z.dat, some (.tup (nats (bts y.wid y.lts))), some (.tup (nats (bts z.wid z.lts))), none]
  have a1 : eCall (F_letters_of K) (aCons (eVar 2) (aCons (eVar 4) aNil)) S c3 = .ok (.tup (nats y.lts)) c3 := letters_ok t3.t0 hy
  have a2 : eCall (F_bits_of K) (aCons (eVar 2) (aCons (eVar 4) aNil)) S c3 = .ok (.tup (nats (bts y.wid y.lts))) (c3 ++ [Cell.lst (nats (bts y.wid y.lts))]) := bits_ok t3.t0 hy
  have a3 : eCall (F__law_letters K) (aCons (eVar 2) (aCons (eVar 4) aNil)) S (c3 ++ [Cell.lst (nats (bts y.wid y.lts))]) = .ok (.tup (nats y.lts)) (c3 ++ [Cell.lst (nats (bts y.wid y.lts))]) := let_ok hy
  have a4 : eVar 6 S (c3 ++ [Cell.lst (nats (bts y.wid y.lts))]) = .ok (.tup (nats (bts y.wid y.lts))) (c3 ++ [Cell.lst (nats (bts y.wid y.lts))]) := rfl
  have e5 := alike_not (K := K) (n := 4) (s := S) (c := c3) (eLst2 a1 a2) (eLst2 a3 a4) (pl_two hy)
  obtain ⟨c4, hc4⟩ : ∃ c4, c4 = c3 ++ [.lst (nats (bts y.wid y.lts))] := ⟨_, rfl⟩
  rw [← hc4] at e5
  have hr4 : Row K ns c4 := by rw [hc4]; exact hr3.app
  have t4 := hr4.tabs
  have e6a := alike_not (K := K) (n := 4) (s := S) (c := c4) (f := eCall (F_key_of_bits K) (aCons (eVar 2) (aCons (eVar 6) aNil))) (g := eVar 4) (c2 := c4 ++ [.lst (nats y.lts)]) (kob_ok hy t4) rfl (Pl.dat (n := 3) hy)
  obtain ⟨c5, hc5⟩ : ∃ c5, c5 = c4 ++ [.lst (nats y.lts)] := ⟨_, rfl⟩
  rw [← hc5] at e6a
  have hr5 : Row K ns c5 := by rw [hc5]; exact hr4.app
  have t5 := hr5.tabs
  obtain ⟨c6, hc6⟩ : ∃ c6, c6 = c5 ++ [.lst (nats (bts y.wid y.lts))] := ⟨_, rfl⟩
  have hr6 : Row K ns c6 := by rw [hc6]; exact hr5.app
  have t6 := hr6.tabs
  obtain ⟨c7, hc7⟩ : ∃ c7, c7 = c6 ++ [.lst (nats (bts z.wid z.lts))] := ⟨_, rfl⟩
  have hr7 : Row K ns c7 := by rw [hc7]; exact hr6.app
  have t7 := hr7.tabs
  have by1 : eCall (F_bits_of K) (aCons (eVar 2) (aCons (eVar 4) aNil)) S c5 = .ok (.tup (nats (bts y.wid y.lts))) c6 := by rw [hc6]; exact bits_ok t5.t0 hy
  have bz1 : eCall (F_bits_of K) (aCons (eVar 2) (aCons (eVar 5) aNil)) S c6 = .ok (.tup (nats (bts z.wid z.lts))) c7 := by
    show F_bits_of K [.str y.fam, z.dat] c6 = _
    rw [hf, hc7]; exact bits_ok t6.t0 hz
  have l1 : eOp oLt (eCall (F_bits_of K) (aCons (eVar 2) (aCons (eVar 4) aNil))) (eCall (F_bits_of K) (aCons (eVar 2) (aCons (eVar 5) aNil))) S c5 = .ok (.bl (ltK y z)) c7 := by
    rw [eOp, by1, Res.bind_ok, bz1, Res.bind_ok, lt_bits hy hz hf]
  have l2 : eOp oLt (eVar 4) (eVar 5) S c7 = .ok (.bl (ltK y z)) c7 := by
    show oLt y.dat z.dat c7 = _
    exact lt_dat hf
  have e6b : tsE (eOp oNe (eOp oLt (eCall (F_bits_of K) (aCons (eVar 2) (aCons (eVar 4) aNil))) (eCall (F_bits_of K) (aCons (eVar 2) (aCons (eVar 5) aNil)))) (eOp oLt (eVar 4) (eVar 5))) S c5 = .ok false c7 := by
    rw [tsE, eOp, l1, Res.bind_ok, l2, Res.bind_ok, ne_bl]
    simp
  obtain ⟨P, e7, hP⟩ := places_ok (l := bts y.wid y.lts) (m := bts z.wid z.lts) (a0 := some (.scr (ns.map D.int))) (a1 := some (.cel 4)) (a2 := some (.str y.fam)) (a3 := none) (a4 := some y.dat) (a5 := some z.dat) (a8 := none) (c := c7) (by have := Ky.bts_len hy; omega) (by have := Ky.bts_len hz; omega)
  obtain ⟨i, hi⟩ : ∃ i, y ≠ z → Place (bts y.wid y.lts) (bts z.wid z.lts) i := by
    by_cases e : y = z
    · exact ⟨0, fun h => (h e).elim⟩
    · obtain ⟨i, p⟩ := fork_place (fork_ky hy hz hf e)
      exact ⟨i, fun _ => p⟩
  obtain ⟨x8, e8'⟩ := first_ok (K := K) (c := c7) t7.t0 hy hz hf hi
  let S2 : Sl := [some (.scr (ns.map D.int)), some (.cel 4), some (.str y.fam), some (.lst P), some y.dat, some z.dat, some (.tup (nats (bts y.wid y.lts))), some (.tup (nats (bts z.wid z.lts))), none]
  have e8g : eIf (tsE (eOp oEq (eVar 4) (eVar 5))) (eC .non) (eOp oIx (eVar 3) (eC (.int 0))) S2 (c7 ++ x8) = .ok (unD y z i) (c7 ++ x8) := by
    have h1 : tsE (eOp oEq (eVar 4) (eVar 5)) S2 (c7 ++ x8) = .ok (decide (y = z)) (c7 ++ x8) := by
      have : eOp oEq (eVar 4) (eVar 5) S2 (c7 ++ x8) = oEq y.dat z.dat (c7 ++ x8) := rfl
      rw [tsE, this, eq_dat hy hz hf, Res.bind_ok]
    rw [eIf, h1, Res.bind_ok]
    by_cases e : y = z
    · rw [if_pos (decide_eq_true e), unD, if_pos e]
      rfl
    · rw [if_neg (by simpa using e), unD, if_neg e]
      show oIx (.lst P) (.int 0) (c7 ++ x8) = _
      exact hP i _ (hi e)
  have e8 := alike_not (K := K) (n := 4) (s := S2) (c := c7) (f := eCall (F_first_unlike K) (aCons (eVar 2) (aCons (eVar 4) (aCons (eVar 5) aNil)))) (g := eIf (tsE (eOp oEq (eVar 4) (eVar 5))) (eC .non) (eOp oIx (eVar 3) (eC (.int 0)))) e8' e8g (Pl.unD (n := 3))
  have hr8 : Row K ns (c7 ++ x8) := hr7.app
  obtain ⟨c9, e9'⟩ := refused_ok hr8 hy
  have e9 : eCall (F__law_refused K) (aCons (eVar 1) (aCons (eVar 2) (aCons (eVar 4) (aCons (eVar 6) aNil)))) S2 (c7 ++ x8) = .ok (.bl true) c9 := e9'
  have key : b_law K [some (.scr (ns.map D.int)), none, none, none, none, none, none, none, none] (cells0 K tfs) = .rt (.bl true) c9 := by
    unfold b_law
    refine (sSeq_nx (sAsg_nm e1)).trans ?_
    refine (sSeq_nx (sAsg_nm e2)).trans ?_
    refine (sSeq_nx (sPar_ok e3)).trans ?_
    refine (sSeq_nx (sAsg_67 e4)).trans ?_
    refine (sSeq_nx (sIf_fn e5)).trans ?_
    refine (sSeq_nx (sIf_fn (tsOr_ff e6a e6b))).trans ?_
    refine (sSeq_nx (sAsg_nm e7)).trans ?_
    refine (sSeq_nx (sIf_fn e8)).trans ?_
    exact sRet_ok e9
  refine ⟨c9, ?_⟩
  unfold F_law
  rw [mkF_1, hst, key]
  rfl
end K01

set_option Elab.async false
/-- every row of the law holds -/
theorem PySem.Challenge.cw_keyboughs_k01_whole_keys_holds : PySem.Challenge.rw_keyboughs_k01_whole_keys.Holds :=
  K01.holds_of fun K _ ns _ _ _ => K01.law_ok ns
