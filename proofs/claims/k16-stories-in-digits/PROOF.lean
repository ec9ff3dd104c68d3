import PyProof.Rows.All
import Wide.All
import OpenK.AllK
import Wide.FinOn
import HandS.ForMost
import HandS.ForExc
import HandS.IsInst
import HandS.Wide
import HandS.WideMore
import HandS.TupMul
import HandS.CallSlots
import HandS.Defaults
import KE.GoesEnum
import KE.GoesZip
import HandS.Rev
import HandS.Style
import PyProof.ReprRoads
import HandS.Ends
import PyProof.Rows.ReprOcc
import PyProof.FitsInt
import KE.KStateDown
import HandS.Head0
import HandS.Head1
import HandS.Head2
import HandS.HeadEnd
import HandS.HeadHook1
import HandS.HeadHook2
import PySem.Challenge.RW_logsapart_k16_whole_stories_in_digits
set_option Elab.async false
set_option linter.all false
set_option maxRecDepth 100000
/-! The value layer: what a def's text means as a plain function of data. -/
namespace Py
open PySem PySem.Spec PyProof.Rows L2

/-- data: trees, and numbers of cells (things that change) -/
inductive D where
  | non | bl (b : Bool) | int (i : Int) | str (s : Str)
  | tup (ds : List D) | lst (ds : List D)
  | obj (c : Nat) (ns : List Str) (ds : List D)
  | cell (n : Nat)
  | fn (n : Nat)
  | scr (ns : List Int)
  deriving Inhabited

/-- a thing that changes -/
inductive Cell where
  | lst (ds : List D)
  | ob (c : Nat) (fs : List (Str × D))
  | dT (kvs : List (List Key × D))
  | dK (kvs : List (Key × D))
  deriving Inhabited

/-- where the classes and defs of the text lie -/
structure Tab where
  cls : Nat → Addr
  fns : Nat → Addr
  /-- lists that are being made: nobody else sees them -/
  hid : List Addr := []
def Tab.hide (T : Tab) (g : List Addr) : Tab := { T with hid := g }

abbrev CH := List Cell
abbrev SLS := List (Option D)
abbrev Xfs := List (Str × D)

/-- what an expression comes to -/
inductive RE where
  | ok (d : D) (h : CH)
  | ex (c : Nat) (fs : Xfs) (h : CH)
  | no
inductive RA where
  | ok (ds : List D) (h : CH)
  | ex (c : Nat) (fs : Xfs) (h : CH)
  | no
inductive RS where
  | nx (s : SLS) (h : CH)
  | rt (d : D) (h : CH)
  | bk (s : SLS) (h : CH)
  | ct (s : SLS) (h : CH)
  | ex (c : Nat) (fs : Xfs) (s : SLS) (h : CH)
  | no
abbrev ME := SLS → CH → RE
abbrev MA := SLS → CH → RA
abbrev MS := SLS → CH → RS

section
variable (T : Tab) (K : PySem.W.Frag)
def IsT (α : List Addr) (H : Hp) (a : Addr) (xs : List V) : Prop :=
  (Rd H a (.tup xs) ∧ a ∉ α ∧ a ∉ T.hid) ∨
    ∃ (o : Obj) (its : Array Value) (n : Nat), K.lookup a = some o ∧ o.cls = .type "tuple" ∧ o.data = .seq its n ∧ its.size ≤ sizeLine ∧ Vals xs its.toList
def IsS (α : List Addr) (H : Hp) (a : Addr) (xs : List V) : Prop :=
  (Rd H a (.lst xs) ∧ a ∉ α ∧ a ∉ T.hid) ∨
    ∃ (o : Obj) (its : Array Value) (n : Nat), K.lookup a = some o ∧ o.cls = .type "list" ∧ o.dict = none ∧ o.data = .seq its n ∧ its.size ≤ sizeLine ∧ Vals xs its.toList
mutual
inductive Rep (α : List Addr) (H : Hp) : V → D → Prop
  | non : Rep α H .non .non
  | bl (b : Bool) : Rep α H (.bl b) (.bl b)
  | int (i : Int) : Rep α H (.int i) (.int i)
  | str (x : Str) : Rep α H (.str x) (.str x)
  | tup {a : Addr} {xs : List V} {ds : List D} : IsT T K α H a xs → Reps α H xs ds → Rep α H (.ref a) (.tup ds)
  | lst {a : Addr} {xs : List V} {ds : List D} : H a = some (.lst xs) → a ∉ α ∧ a ∉ T.hid → Reps α H xs ds → Rep α H (.ref a) (.lst ds)
  | obj {a dx : Addr} {c : Nat} {ns : List Str} {xs : List V} {ds : List D} : H a = some (.ins (T.cls c) dx (ns.zip xs)) → a ∉ α ∧ a ∉ T.hid → ns.length = xs.length → Reps α H xs ds → Rep α H (.ref a) (.obj c ns ds)
  | cell {a : Addr} {n : Nat} : α[n]? = some a → Rep α H (.ref a) (.cell n)
  | fn (n : Nat) : Rep α H (.ref (T.fns n)) (.fn n)
  | scr {a : Addr} {ns : List Int} : IsS T K α H a (ns.map V.int) → Rep α H (.ref a) (.scr ns)
inductive Reps (α : List Addr) (H : Hp) : List V → List D → Prop
  | nil : Reps α H [] []
  | cons {v : V} {vs : List V} {d : D} {ds : List D} : Rep α H v d → Reps α H vs ds → Reps α H (v :: vs) (d :: ds)
end
end

/-- what stood stands but at the cells; new cells are new -/
structure Tr (α : List Addr) (H : Hp) (α' : List Addr) (H' : Hp) : Prop where
  pre : ∃ β, α' = α ++ β ∧ ∀ b ∈ β, H b = none
  fr : ∀ b o, H b = some o → b ∉ α → H' b = some o
  mono : ∀ b, H' b = none → H b = none

theorem Tr.refl (α : List Addr) (H : Hp) : Tr α H α H := ⟨⟨[], by simp, by simp⟩, fun _ _ h _ => h, fun _ h => h⟩
theorem Tr.notin {α α' : List Addr} {H H' : Hp} (t : Tr α H α' H') {b : Addr} {o : HO} (h : H b = some o) (n : b ∉ α) : b ∉ α' := by
  obtain ⟨β, rfl, hb⟩ := t.pre
  intro m
  rcases List.mem_append.mp m with m | m
  · exact n m
  · rw [hb b m] at h; cases h
theorem Tr.trans {α α' α'' : List Addr} {H H' H'' : Hp} (t : Tr α H α' H') (u : Tr α' H' α'' H'') : Tr α H α'' H'' := by
  refine ⟨?_, fun b o h n => u.fr b o (t.fr b o h n) (t.notin h n), fun b h => t.mono b (u.mono b h)⟩
  obtain ⟨β, rfl, hb⟩ := t.pre
  obtain ⟨γ, rfl, hg⟩ := u.pre
  refine ⟨β ++ γ, by simp, fun b m => ?_⟩
  rcases List.mem_append.mp m with m | m
  · exact hb b m
  · exact t.mono b (hg b m)
theorem Tr.cell {α α' : List Addr} {H H' : Hp} (t : Tr α H α' H') {n : Nat} {a : Addr} (h : α[n]? = some a) : α'[n]? = some a := by
  obtain ⟨β, rfl, _⟩ := t.pre
  rw [List.getElem?_append_left (List.getElem?_eq_some_iff.mp h).1]
  exact h
/-- a new thing is laid -/
theorem Tr.new {α : List Addr} {H : Hp} {p : Addr} {o : HO} (h : H p = none) : Tr α H α (upd H p o) := by
  refine ⟨⟨[], by simp, by simp⟩, fun b u e _ => ?_, fun b e => ?_⟩
  · rw [upd_ne (ne_of_none e h)]; exact e
  · by_cases hb : b = p
    · rw [hb]; exact h
    · rw [upd_ne hb] at e; exact e
/-- a new cell -/
theorem Tr.newc {α : List Addr} {H : Hp} {p : Addr} {o : HO} (h : H p = none) : Tr α H (α ++ [p]) (upd H p o) := by
  refine ⟨⟨[p], rfl, by simp [h]⟩, (Tr.new (α := α) h).fr, (Tr.new (α := α) (o := o) h).mono⟩
/-- a cell changes -/
theorem Tr.set {α : List Addr} {H : Hp} {p : Addr} {o u : HO} {n : Nat} (hp : α[n]? = some p) (h : H p = some u) : Tr α H α (upd H p o) := by
  have hm : p ∈ α := List.mem_of_getElem? hp
  refine ⟨⟨[], by simp, by simp⟩, fun b u e k => ?_, fun b e => ?_⟩
  · rw [upd_ne (fun z => k (by rw [z]; exact hm))]; exact e
  · by_cases hb : b = p
    · rw [hb, upd_same] at e; cases e
    · rw [upd_ne hb] at e; exact e

section
variable {T : Tab} {K : PySem.W.Frag} {α α' : List Addr} {H H' : Hp}
theorem IsT.sq {a : Addr} {xs : List V} (h : IsT T K α H a xs) : SqT K H a xs := by
  rcases h with ⟨h, _⟩ | h
  · exact .inl h
  · exact .inr h
theorem IsS.sq {a : Addr} {xs : List V} (h : IsS T K α H a xs) : SqL K H a xs := by
  rcases h with ⟨h, _⟩ | h
  · exact .inl h
  · exact .inr h
theorem rd_tr (t : Tr α H α' H') {a : Addr} {u : HO} (h : Rd H a u) (n : a ∉ α ∧ a ∉ T.hid) : Rd H' a u ∧ a ∉ α' ∧ a ∉ T.hid := by
  rcases h with h | ⟨o, h⟩
  · exact ⟨.inl (t.fr a _ h n.1), t.notin h n.1, n.2⟩
  · exact ⟨.inr ⟨o, t.fr a _ h n.1⟩, t.notin h n.1, n.2⟩
theorem IsT.tr (t : Tr α H α' H') {a : Addr} {xs : List V} (h : IsT T K α H a xs) : IsT T K α' H' a xs := by
  rcases h with ⟨h, n⟩ | h
  · exact .inl (rd_tr t h n)
  · exact .inr h
theorem IsS.tr (t : Tr α H α' H') {a : Addr} {xs : List V} (h : IsS T K α H a xs) : IsS T K α' H' a xs := by
  rcases h with ⟨h, n⟩ | h
  · exact .inl (rd_tr t h n)
  · exact .inr h
mutual
theorem Rep.tr (t : Tr α H α' H') : ∀ {v : V} {d : D}, Rep T K α H v d → Rep T K α' H' v d
  | _, _, .non => .non
  | _, _, .bl b => .bl b
  | _, _, .int i => .int i
  | _, _, .str x => .str x
  | _, _, .tup h r => .tup (h.tr t) (Reps.tr t r)
  | _, _, .lst h n r => .lst (t.fr _ _ h n.1) ⟨t.notin h n.1, n.2⟩ (Reps.tr t r)
  | _, _, .obj h n l r => .obj (t.fr _ _ h n.1) ⟨t.notin h n.1, n.2⟩ l (Reps.tr t r)
  | _, _, .cell h => .cell (t.cell h)
  | _, _, .fn n => .fn n
  | _, _, .scr h => .scr (h.tr t)
theorem Reps.tr (t : Tr α H α' H') : ∀ {vs : List V} {ds : List D}, Reps T K α H vs ds → Reps T K α' H' vs ds
  | _, _, .nil => .nil
  | _, _, .cons h r => .cons (Rep.tr t h) (Reps.tr t r)
end
theorem Reps.length {vs : List V} {ds : List D} (h : Reps T K α H vs ds) : vs.length = ds.length := by
  induction vs generalizing ds with
  | nil => cases h; rfl
  | cons v vs ih => cases h with | cons h r => simp [ih r]
theorem Reps.get {vs : List V} {ds : List D} (h : Reps T K α H vs ds) : ∀ {i : Nat} {d : D}, ds[i]? = some d → ∃ v, vs[i]? = some v ∧ Rep T K α H v d := by
  induction vs generalizing ds with
  | nil => cases h; intro i d e; simp at e
  | cons v vs ih =>
    cases h with
    | cons h r =>
      intro i d e
      cases i with
      | zero => simp at e; subst e; exact ⟨v, rfl, h⟩
      | succ i => simp at e; obtain ⟨u, e1, e2⟩ := ih r e; exact ⟨u, by simpa using e1, e2⟩
theorem Reps.get' {vs : List V} {ds : List D} (h : Reps T K α H vs ds) : ∀ {i : Nat} {v : V}, vs[i]? = some v → ∃ d, ds[i]? = some d ∧ Rep T K α H v d := by
  induction vs generalizing ds with
  | nil => cases h; intro i d e; simp at e
  | cons v vs ih =>
    cases h with
    | cons h r =>
      intro i d e
      cases i with
      | zero => simp at e; subst e; exact ⟨_, rfl, h⟩
      | succ i => simp at e; obtain ⟨u, e1, e2⟩ := ih r e; exact ⟨u, by simpa using e1, e2⟩
theorem Reps.append {vs us : List V} {ds es : List D} (h : Reps T K α H vs ds) (k : Reps T K α H us es) : Reps T K α H (vs ++ us) (ds ++ es) := by
  induction vs generalizing ds with
  | nil => cases h; exact k
  | cons v vs ih => cases h with | cons h r => exact .cons h (ih r)
theorem Reps.set {vs : List V} {ds : List D} (h : Reps T K α H vs ds) {v : V} {d : D} (r : Rep T K α H v d) : ∀ i, Reps T K α H (vs.set i v) (ds.set i d) := by
  induction vs generalizing ds with
  | nil => cases h; intro i; exact .nil
  | cons w vs ih =>
    cases h with
    | cons h q =>
      intro i
      cases i with
      | zero => exact .cons r q
      | succ i => exact .cons h (ih q i)
theorem Reps.take {vs : List V} {ds : List D} (h : Reps T K α H vs ds) : ∀ n, Reps T K α H (vs.take n) (ds.take n) := by
  induction vs generalizing ds with
  | nil => cases h; intro n; simp; exact .nil
  | cons w vs ih =>
    cases h with
    | cons h q =>
      intro n
      cases n with
      | zero => exact .nil
      | succ n => exact .cons h (ih q n)
theorem Reps.drop {vs : List V} {ds : List D} (h : Reps T K α H vs ds) : ∀ n, Reps T K α H (vs.drop n) (ds.drop n) := by
  induction vs generalizing ds with
  | nil => cases h; intro n; simp; exact .nil
  | cons w vs ih =>
    cases h with
    | cons h q =>
      intro n
      cases n with
      | zero => exact .cons h q
      | succ n => exact ih q n
theorem Reps.reverse {vs : List V} {ds : List D} (h : Reps T K α H vs ds) : Reps T K α H vs.reverse ds.reverse := by
  induction vs generalizing ds with
  | nil => cases h; exact .nil
  | cons w vs ih =>
    cases h with
    | cons h q =>
      rw [List.reverse_cons, List.reverse_cons]
      exact (ih q).append (.cons h .nil)
theorem Reps.ints : ∀ {ns : List Int}, Reps T K α H (ns.map V.int) (ns.map D.int)
  | [] => .nil
  | n :: ns => .cons (.int n) Reps.ints
theorem Reps.of_ints : ∀ {ns : List Int} {vs : List V}, Reps T K α H vs (ns.map D.int) → vs = ns.map V.int
  | [], _, .nil => rfl
  | n :: ns, _, .cons h r => by
    cases h
    rw [Reps.of_ints r]
    rfl
theorem Reps.of_bools : ∀ {ns : List Bool} {vs : List V}, Reps T K α H vs (ns.map D.bl) → vs = ns.map V.bl
  | [], _, .nil => rfl
  | n :: ns, _, .cons h r => by
    cases h
    rw [Reps.of_bools r]
    rfl

/-- what stands at a cell -/
def CellOk (T : Tab) (K : PySem.W.Frag) (α : List Addr) (H : Hp) (a : Addr) : Cell → Prop
  | .lst ds => ∃ xs, H a = some (.lst xs) ∧ Reps T K α H xs ds
  | .ob c fs => ∃ (dx : Addr) (xs : List (Str × V)), H a = some (.ins (T.cls c) dx xs) ∧ xs.map (·.1) = fs.map (·.1) ∧ Reps T K α H (xs.map (·.2)) (fs.map (·.2))
  | .dT kvs => ∃ xs : List (List Key × V), H a = some (.dT xs) ∧ xs.map (·.1) = kvs.map (·.1) ∧ Reps T K α H (xs.map (·.2)) (kvs.map (·.2))
  | .dK kvs => ∃ xs : List (Key × V), H a = some (.dK xs) ∧ xs.map (·.1) = kvs.map (·.1) ∧ Reps T K α H (xs.map (·.2)) (kvs.map (·.2))
theorem CellOk.here {a : Addr} {c : Cell} (h : CellOk T K α H a c) : ∃ o, H a = some o := by
  cases c with
  | lst ds => obtain ⟨xs, h, _⟩ := h; exact ⟨_, h⟩
  | ob c fs => obtain ⟨_, _, h, _⟩ := h; exact ⟨_, h⟩
  | dT kvs => obtain ⟨_, h, _⟩ := h; exact ⟨_, h⟩
  | dK kvs => obtain ⟨_, h, _⟩ := h; exact ⟨_, h⟩
/-- the object at a is as it was -/
theorem CellOk.tr (t : Tr α H α' H') {a : Addr} (ha : ∀ o, H a = some o → H' a = some o) {c : Cell} (h : CellOk T K α H a c) : CellOk T K α' H' a c := by
  cases c with
  | lst ds => obtain ⟨xs, h, r⟩ := h; exact ⟨xs, ha _ h, r.tr t⟩
  | ob c fs => obtain ⟨dx, xs, h, e, r⟩ := h; exact ⟨dx, xs, ha _ h, e, r.tr t⟩
  | dT kvs => obtain ⟨xs, h, e, r⟩ := h; exact ⟨xs, ha _ h, e, r.tr t⟩
  | dK kvs => obtain ⟨xs, h, e, r⟩ := h; exact ⟨xs, ha _ h, e, r.tr t⟩

theorem nd_ix {β : Type} : ∀ {N : List β}, N.Nodup → ∀ {i j : Nat} {x : β}, N[i]? = some x → N[j]? = some x → i = j
  | [], _, _, _, _, h, _ => by simp at h
  | y :: N, hN, 0, 0, _, _, _ => rfl
  | y :: N, hN, 0, j + 1, x, h, k => by
    simp at h k
    exact absurd (List.mem_of_getElem? (h ▸ k)) (List.nodup_cons.mp hN).1
  | y :: N, hN, i + 1, 0, x, h, k => by
    simp at h k
    exact absurd (List.mem_of_getElem? (k ▸ h)) (List.nodup_cons.mp hN).1
  | y :: N, hN, i + 1, j + 1, x, h, k => by
    simp at h k
    rw [nd_ix (List.nodup_cons.mp hN).2 h k]
/-- the cells stand as told -/
structure SH (T : Tab) (K : PySem.W.Frag) (α : List Addr) (H : Hp) (hp : CH) : Prop where
  nd : α.Nodup
  len : α.length = hp.length
  at_ : ∀ (n : Nat) (a : Addr) (c : Cell), α[n]? = some a → hp[n]? = some c → CellOk T K α H a c
  hal : ∀ a ∈ T.hid, (∃ o, H a = some o) ∧ a ∉ α
theorem SH.alloc {hp : CH} (h : SH T K α H hp) {a : Addr} (m : a ∈ α) : ∃ o, H a = some o := by
  obtain ⟨n, hn, e⟩ := List.getElem_of_mem m
  have : n < hp.length := by rw [← h.len]; exact hn
  exact (h.at_ n a hp[n] (by rw [List.getElem?_eq_getElem hn, e]) (List.getElem?_eq_getElem this)).here
theorem SH.fresh {hp : CH} (h : SH T K α H hp) {p : Addr} (e : H p = none) : p ∉ α := fun m => by
  obtain ⟨o, q⟩ := h.alloc m
  rw [e] at q; cases q
theorem SH.free {hp : CH} (h : SH T K α H hp) {p : Addr} (e : H p = none) : p ∉ α ∧ p ∉ T.hid := ⟨h.fresh e, fun m => by
  obtain ⟨⟨o, q⟩, _⟩ := h.hal p m
  rw [e] at q; cases q⟩
theorem SH.hal' {hp : CH} (h : SH T K α H hp) {H' : Hp} (m : ∀ b, H' b = none → H b = none) : ∀ a ∈ T.hid, (∃ o, H' a = some o) ∧ a ∉ α := fun a ha => by
  obtain ⟨⟨o, q⟩, n⟩ := h.hal a ha
  refine ⟨?_, n⟩
  cases e : H' a with
  | some u => exact ⟨u, rfl⟩
  | none => rw [m a e] at q; cases q
theorem SH.new {hp : CH} (h : SH T K α H hp) {p : Addr} {o : HO} (e : H p = none) : SH T K α (upd H p o) hp :=
  ⟨h.nd, h.len, fun n a c h1 h2 => (h.at_ n a c h1 h2).tr (Tr.new e) fun u q => by rw [upd_ne (ne_of_none q e)]; exact q, h.hal' (Tr.new (α := α) e).mono⟩
theorem SH.get {hp : CH} (h : SH T K α H hp) {n : Nat} {c : Cell} (e : hp[n]? = some c) {a : Addr} (ha : α[n]? = some a) : CellOk T K α H a c := h.at_ n a c ha e
theorem SH.set {hp : CH} (h : SH T K α H hp) {n : Nat} {p : Addr} {o u : HO} {c : Cell} (ha : α[n]? = some p) (hu : H p = some u) (hc : CellOk T K α (upd H p o) p c) : SH T K α (upd H p o) (hp.set n c) := by
  have t : Tr α H α (upd H p o) := Tr.set ha hu
  refine ⟨h.nd, by rw [List.length_set]; exact h.len, fun m a d h1 h2 => ?_, h.hal' t.mono⟩
  by_cases e : m = n
  · subst e
    rw [ha] at h1; cases h1
    have hl : m < hp.length := by rw [← h.len]; exact (List.getElem?_eq_some_iff.mp ha).1
    rw [List.getElem?_set_self hl] at h2; cases h2
    exact hc
  · rw [List.getElem?_set_ne (Ne.symm e)] at h2
    refine (h.at_ m a d h1 h2).tr t fun v q => ?_
    have ne : a ≠ p := by
      intro z
      subst z
      exact e (nd_ix h.nd h1 ha)
    rw [upd_ne ne]; exact q
theorem SH.newc {hp : CH} (h : SH T K α H hp) {p : Addr} {o : HO} {c : Cell} (e : H p = none) (hc : CellOk T K (α ++ [p]) (upd H p o) p c) : SH T K (α ++ [p]) (upd H p o) (hp ++ [c]) := by
  refine ⟨?_, by rw [List.length_append, List.length_append, h.len]; rfl, fun m a d h1 h2 => ?_, fun a ha => ?_⟩
  rotate_left 2
  · obtain ⟨q, n⟩ := h.hal' (Tr.new (α := α) (o := o) e).mono a ha
    refine ⟨q, fun m => ?_⟩
    rcases List.mem_append.mp m with m | m
    · exact n m
    · simp at m; subst m; exact (h.free e).2 ha
  · rw [List.nodup_append]
    refine ⟨h.nd, by simp, fun a ha b hb => ?_⟩
    intro z
    simp at hb
    subst hb; subst z
    exact h.fresh e ha
  · by_cases hm : m < α.length
    · rw [List.getElem?_append_left hm] at h1
      rw [List.getElem?_append_left (by rw [← h.len]; exact hm)] at h2
      exact (h.at_ m a d h1 h2).tr (Tr.newc e) fun v q => by rw [upd_ne (ne_of_none q e)]; exact q
    · rw [List.getElem?_append_right (by omega)] at h1
      rw [List.getElem?_append_right (by rw [← h.len]; omega)] at h2
      rw [← h.len] at h2
      obtain ⟨z, e1⟩ := List.getElem?_eq_some_iff.mp h1
      simp at z
      have z0 : m - α.length = 0 := by omega
      rw [z0] at h1 h2
      simp at h1 h2
      subst h1; subst h2
      exact hc

/-- the names hold what is told -/
structure SL (T : Tab) (K : PySem.W.Frag) (α : List Addr) (H : Hp) (σ : L2.St) (s : SLS) : Prop where
  len : σ.length = s.length
  at_ : ∀ (i : Nat) (d : D), s[i]? = some (some d) → ∃ v, σ[i]? = some (some v) ∧ Rep T K α H v d
theorem SL.tr (t : Tr α H α' H') {σ : L2.St} {s : SLS} (h : SL T K α H σ s) : SL T K α' H' σ s :=
  ⟨h.len, fun i d e => by obtain ⟨v, q, r⟩ := h.at_ i d e; exact ⟨v, q, r.tr t⟩⟩
theorem SL.set {σ : L2.St} {s : SLS} (h : SL T K α H σ s) {v : V} {d : D} (r : Rep T K α H v d) (i : Nat) : SL T K α H (σ.set i (some v)) (s.set i (some d)) := by
  refine ⟨by rw [List.length_set, List.length_set]; exact h.len, fun j e q => ?_⟩
  by_cases hj : i = j
  · subst hj
    by_cases hl : i < s.length
    · rw [List.getElem?_set_self hl] at q; cases q
      exact ⟨v, by rw [List.getElem?_set_self (by rw [h.len]; exact hl)], r⟩
    · rw [List.getElem?_eq_none (by simpa using hl)] at q; cases q
  · rw [List.getElem?_set_ne hj] at q
    obtain ⟨u, e1, r1⟩ := h.at_ j e q
    exact ⟨u, by rw [List.getElem?_set_ne hj]; exact e1, r1⟩
theorem SL.clear {σ : L2.St} {s : SLS} (h : SL T K α H σ s) (i : Nat) (x : Option V) : SL T K α H (σ.set i x) (s.set i none) := by
  refine ⟨by rw [List.length_set, List.length_set]; exact h.len, fun j e q => ?_⟩
  by_cases hj : i = j
  · subst hj
    by_cases hl : i < s.length
    · rw [List.getElem?_set_self hl] at q; cases q
    · rw [List.getElem?_eq_none (by simpa using hl)] at q; cases q
  · rw [List.getElem?_set_ne hj] at q
    obtain ⟨u, e1, r1⟩ := h.at_ j e q
    exact ⟨u, by rw [List.getElem?_set_ne hj]; exact e1, r1⟩

/-- an exception's own dict -/
def XRep (T : Tab) (K : PySem.W.Frag) (α : List Addr) (H : Hp) (cls : Value) (dx : Option Addr) (c : Nat) (fs : Xfs) : Prop :=
  cls = .ref (T.cls c) ∧ ∃ d xs, dx = some d ∧ H d = some (.xd xs) ∧ xs.map (·.1) = fs.map (·.1) ∧ Reps T K α H (xs.map (·.2)) (fs.map (·.2))

/-- what is to hold behind an expression, said of what it comes to -/
def PoE (T : Tab) (K : PySem.W.Frag) (α : List Addr) (σ : L2.St) (H : Hp) (s : SLS) (Q : VK) (W : WX) : RE → Prop
  | .ok d h => ∀ v H' α', Tr α H α' H' → SH T K α' H' h → Rep T K α' H' v d → Q v H'
  | .ex c fs h => ∀ cls dx H' α', Tr α H α' H' → SH T K α' H' h → XRep T K α' H' cls dx c fs → W cls dx σ H'
  | .no => False
def PoA (T : Tab) (K : PySem.W.Frag) (α : List Addr) (σ : L2.St) (H : Hp) (s : SLS) (Q : List V → Hp → Prop) (W : WX) : RA → Prop
  | .ok ds h => ∀ vs H' α', Tr α H α' H' → SH T K α' H' h → Reps T K α' H' vs ds → Q vs H'
  | .ex c fs h => ∀ cls dx H' α', Tr α H α' H' → SH T K α' H' h → XRep T K α' H' cls dx c fs → W cls dx σ H'
  | .no => False
def PoS (T : Tab) (K : PySem.W.Frag) (α : List Addr) (H : Hp) (D : Ends) (W : WX) : RS → Prop
  | .nx s h => ∀ σ' H' α', Tr α H α' H' → SH T K α' H' h → SL T K α' H' σ' s → D.nx σ' H'
  | .rt d h => ∀ v H' α', Tr α H α' H' → SH T K α' H' h → Rep T K α' H' v d → D.rt v H'
  | .bk s h => ∀ σ' H' α', Tr α H α' H' → SH T K α' H' h → SL T K α' H' σ' s → D.bk σ' H'
  | .ct s h => ∀ σ' H' α', Tr α H α' H' → SH T K α' H' h → SL T K α' H' σ' s → D.ct σ' H'
  | .ex c fs s h => ∀ cls dx σ' H' α', Tr α H α' H' → SH T K α' H' h → SL T K α' H' σ' s → XRep T K α' H' cls dx c fs → W cls dx σ' H'
  | .no => False
def SndE (T : Tab) (K : PySem.W.Frag) (W : WX) (t : TE) (m : ME) : Prop := ∀ g α σ H s h, SH (T.hide g) K α H h → SL (T.hide g) K α H σ s → ∀ Q, PoE (T.hide g) K α σ H s Q W (m s h) → t σ H Q
def SndA (T : Tab) (K : PySem.W.Frag) (W : WX) (t : TA) (m : MA) : Prop := ∀ g α σ H s h, SH (T.hide g) K α H h → SL (T.hide g) K α H σ s → ∀ Q, PoA (T.hide g) K α σ H s Q W (m s h) → t σ H Q
def SndS (T : Tab) (K : PySem.W.Frag) (W : WX) (t : TS) (m : MS) : Prop := ∀ g α σ H s h, SH (T.hide g) K α H h → SL (T.hide g) K α H σ s → ∀ D, PoS (T.hide g) K α H D W (m s h) → t D σ H

/-- an expression means m -/
def SE (T : Tab) (W : WX) (X : Cx) (e : Expr) (m : ME) : Prop := ∃ t, PE X e t ∧ SndE T X.K W t m
def SA (T : Tab) (W : WX) (X : Cx) (es : List Expr) (m : MA) : Prop := ∃ t, PA X es t ∧ SndA T X.K W t m
def SS (T : Tab) (W : WX) (X : Cx) (st : Stmt) (m : MS) : Prop := ∃ t, PS X st t ∧ SndS T X.K W t m
def SSs (T : Tab) (W : WX) (X : Cx) (st : List Stmt) (m : MS) : Prop := ∃ t, PSs X st t ∧ SndS T X.K W t m
end
end Py

set_option Elab.async false
set_option linter.all false
set_option maxRecDepth 100000
namespace Py
open PySem PySem.Spec PyProof.Rows L2
def RE.bind (r : RE) (k : D → CH → RE) : RE := match r with | .ok d h => k d h | .ex c fs h => .ex c fs h | .no => .no
def RE.bindA (r : RE) (k : D → CH → RA) : RA := match r with | .ok d h => k d h | .ex c fs h => .ex c fs h | .no => .no
def RA.bindA (r : RA) (k : List D → CH → RA) : RA := match r with | .ok d h => k d h | .ex c fs h => .ex c fs h | .no => .no
def RA.bind (r : RA) (k : List D → CH → RE) : RE := match r with | .ok d h => k d h | .ex c fs h => .ex c fs h | .no => .no
def RE.bindS (r : RE) (s : SLS) (k : D → CH → RS) : RS := match r with | .ok d h => k d h | .ex c fs h => .ex c fs s h | .no => .no
def RS.bind (r : RS) (k : SLS → CH → RS) : RS := match r with | .nx s h => k s h | r => r
def lift (o : Option D) (h : CH) : RE := match o with | some d => .ok d h | none => .no

section
variable {T : Tab} {K : PySem.W.Frag} {W : WX} {α α' : List Addr} {σ : L2.St} {H H' : Hp} {s : SLS} {hp : CH}
theorem PoE.tr {Q : VK} {r : RE} (t : Tr α H α' H') (h : PoE T K α σ H s Q W r) : PoE T K α' σ H' s Q W r := by
  cases r with
  | ok d h1 => exact fun v H2 α2 u a b => h v H2 α2 (t.trans u) a b
  | ex c fs h1 => exact fun v d H2 α2 u a b => h v d H2 α2 (t.trans u) a b
  | no => exact h
theorem PoA.tr {Q : List V → Hp → Prop} {r : RA} (t : Tr α H α' H') (h : PoA T K α σ H s Q W r) : PoA T K α' σ H' s Q W r := by
  cases r with
  | ok d h1 => exact fun v H2 α2 u a b => h v H2 α2 (t.trans u) a b
  | ex c fs h1 => exact fun v d H2 α2 u a b => h v d H2 α2 (t.trans u) a b
  | no => exact h
theorem PoS.tr {D : Ends} {r : RS} (t : Tr α H α' H') (h : PoS T K α H D W r) : PoS T K α' H' D W r := by
  cases r with
  | nx d h1 => exact fun v H2 α2 u a b => h v H2 α2 (t.trans u) a b
  | rt d h1 => exact fun v H2 α2 u a b => h v H2 α2 (t.trans u) a b
  | bk d h1 => exact fun v H2 α2 u a b => h v H2 α2 (t.trans u) a b
  | ct d h1 => exact fun v H2 α2 u a b => h v H2 α2 (t.trans u) a b
  | ex c fs s1 h1 => exact fun v d σ' H2 α2 u a b e => h v d σ' H2 α2 (t.trans u) a b e
  | no => exact h
theorem PoE.mono {Q Q' : VK} {r : RE} (h : PoE T K α σ H s Q W r) (k : ∀ v H', Q v H' → Q' v H') : PoE T K α σ H s Q' W r := by
  cases r with
  | ok d h1 => exact fun v H2 α2 u a b => k _ _ (h v H2 α2 u a b)
  | ex c fs h1 => exact h
  | no => exact h

/-- one expression, then what follows -/
theorem SndE.run {ta : TE} {ma : ME} (ha : SndE T K W ta ma) {g : List Addr} (sh : SH (T.hide g) K α H hp) (sl : SL (T.hide g) K α H σ s) {G Q : VK} {k : D → CH → RE}
    (po : PoE (T.hide g) K α σ H s Q W ((ma s hp).bind k))
    (step : ∀ v d α1 H1 h1, Tr α H α1 H1 → SH (T.hide g) K α1 H1 h1 → SL (T.hide g) K α1 H1 σ s → Rep (T.hide g) K α1 H1 v d → PoE (T.hide g) K α1 σ H1 s Q W (k d h1) → G v H1) : ta σ H G := by
  refine ha g α σ H s hp sh sl G ?_
  generalize hm : ma s hp = r at po
  cases r with
  | ok d h1 => exact fun v H1 α1 t sh1 r1 => step v d α1 H1 h1 t sh1 (sl.tr t) r1 (PoE.tr t po)
  | ex c fs h1 => exact po
  | no => exact po
theorem SndE.runA {ta : TE} {ma : ME} (ha : SndE T K W ta ma) {g : List Addr} (sh : SH (T.hide g) K α H hp) (sl : SL (T.hide g) K α H σ s) {G : VK} {Q : List V → Hp → Prop} {k : D → CH → RA}
    (po : PoA (T.hide g) K α σ H s Q W ((ma s hp).bindA k))
    (step : ∀ v d α1 H1 h1, Tr α H α1 H1 → SH (T.hide g) K α1 H1 h1 → SL (T.hide g) K α1 H1 σ s → Rep (T.hide g) K α1 H1 v d → PoA (T.hide g) K α1 σ H1 s Q W (k d h1) → G v H1) : ta σ H G := by
  refine ha g α σ H s hp sh sl G ?_
  generalize hm : ma s hp = r at po
  cases r with
  | ok d h1 => exact fun v H1 α1 t sh1 r1 => step v d α1 H1 h1 t sh1 (sl.tr t) r1 (PoA.tr t po)
  | ex c fs h1 => exact po
  | no => exact po
theorem SndA.run {ta : TA} {ma : MA} (ha : SndA T K W ta ma) {g : List Addr} (sh : SH (T.hide g) K α H hp) (sl : SL (T.hide g) K α H σ s) {G : List V → Hp → Prop} {Q : VK} {k : List D → CH → RE}
    (po : PoE (T.hide g) K α σ H s Q W ((ma s hp).bind k))
    (step : ∀ vs ds α1 H1 h1, Tr α H α1 H1 → SH (T.hide g) K α1 H1 h1 → SL (T.hide g) K α1 H1 σ s → Reps (T.hide g) K α1 H1 vs ds → PoE (T.hide g) K α1 σ H1 s Q W (k ds h1) → G vs H1) : ta σ H G := by
  refine ha g α σ H s hp sh sl G ?_
  generalize hm : ma s hp = r at po
  cases r with
  | ok d h1 => exact fun v H1 α1 t sh1 r1 => step v d α1 H1 h1 t sh1 (sl.tr t) r1 (PoE.tr t po)
  | ex c fs h1 => exact po
  | no => exact po
theorem SndA.runA {ta : TA} {ma : MA} (ha : SndA T K W ta ma) {g : List Addr} (sh : SH (T.hide g) K α H hp) (sl : SL (T.hide g) K α H σ s) {G : List V → Hp → Prop} {Q : List V → Hp → Prop} {k : List D → CH → RA}
    (po : PoA (T.hide g) K α σ H s Q W ((ma s hp).bindA k))
    (step : ∀ vs ds α1 H1 h1, Tr α H α1 H1 → SH (T.hide g) K α1 H1 h1 → SL (T.hide g) K α1 H1 σ s → Reps (T.hide g) K α1 H1 vs ds → PoA (T.hide g) K α1 σ H1 s Q W (k ds h1) → G vs H1) : ta σ H G := by
  refine ha g α σ H s hp sh sl G ?_
  generalize hm : ma s hp = r at po
  cases r with
  | ok d h1 => exact fun v H1 α1 t sh1 r1 => step v d α1 H1 h1 t sh1 (sl.tr t) r1 (PoA.tr t po)
  | ex c fs h1 => exact po
  | no => exact po
theorem SndE.runS {ta : TE} {ma : ME} (ha : SndE T K W ta ma) {g : List Addr} (sh : SH (T.hide g) K α H hp) (sl : SL (T.hide g) K α H σ s) {G : VK} {D : Ends} {k : Py.D → CH → RS}
    (po : PoS (T.hide g) K α H D W ((ma s hp).bindS s k))
    (step : ∀ v d α1 H1 h1, Tr α H α1 H1 → SH (T.hide g) K α1 H1 h1 → SL (T.hide g) K α1 H1 σ s → Rep (T.hide g) K α1 H1 v d → PoS (T.hide g) K α1 H1 D W (k d h1) → G v H1) : ta σ H G := by
  refine ha g α σ H s hp sh sl G ?_
  generalize hm : ma s hp = r at po
  cases r with
  | ok d h1 => exact fun v H1 α1 t sh1 r1 => step v d α1 H1 h1 t sh1 (sl.tr t) r1 (PoS.tr t po)
  | ex c fs h1 => exact fun cls dx H2 α2 t sh2 x => po cls dx σ H2 α2 t sh2 (sl.tr t) x
  | no => exact po

/-! ### names, constants -/
def mVar (i : Nat) : ME := fun s h => match s[i]? with | some (some d) => .ok d h | _ => .no
def mC (d : D) : ME := fun _ h => .ok d h
theorem snd_var (i : Nat) : SndE T K W (tVar i) (mVar i) := fun g α σ H s h sh sl Q po => by
  unfold mVar at po
  split at po
  · next d e =>
    obtain ⟨v, q, r⟩ := sl.at_ i d e
    exact ⟨v, q, po v H α (Tr.refl α H) sh r⟩
  · exact po.elim
theorem snd_c {v : V} {d : D} (hr : ∀ g α H, Rep (T.hide g) K α H v d) : SndE T K W (tC v) (mC d) := fun g α σ H s h sh sl Q po => po v H α (Tr.refl α H) sh (hr g α H)
end
section
variable {T : Tab} {W : WX} {X : Cx} {pos : Pos}
theorem se_var (i : Nat) {x : Str} (hN : X.N[i]? = some x := by rfl) (hv : Vis X.env.scope x := by first | exact Or.inl rfl | exact Or.inr (Or.inl rfl) | exact Or.inr (Or.inr rfl)) (hd : (x == ("__debug__" : Str)) = false := by decide)
    (hcd : (x == ("__classdict__" : Str)) = false := by decide) : SE T W X (.Name x pos) (mVar i) := ⟨_, pe_var hN hv hd hcd, snd_var i⟩
theorem se_int {i : Int} {j : Nat} : SE T W X (.Constant (.int i) j pos) (mC (.int i)) := ⟨_, pe_int, snd_c fun _ _ _ => .int i⟩
theorem se_bl {b : Bool} {j : Nat} : SE T W X (.Constant (.bool b) j pos) (mC (.bl b)) := ⟨_, pe_bl, snd_c fun _ _ _ => .bl b⟩
theorem se_non {j : Nat} : SE T W X (.Constant .none j pos) (mC .non) := ⟨_, pe_non, snd_c fun _ _ _ => .non⟩
theorem se_str {x : Str} {j : Nat} : SE T W X (.Constant (.str x) j pos) (mC (.str x)) := ⟨_, pe_str, snd_c fun _ _ _ => .str x⟩
theorem se_globI {x : Str} {i : Int} (hm : ∃ t, X.mg x = some (.int i t)) (hg : Gl X x := by rfl) (hd : (x == ("__debug__" : Str)) = false := by decide) : SE T W X (.Name x pos) (mC (.int i)) := by
  obtain ⟨t, hm⟩ := hm
  exact ⟨_, pe_glob (v := .int i) hg hm ⟨t, rfl⟩ hd, snd_c fun _ _ _ => .int i⟩
theorem se_globS {x : Str} {y : Str} (hm : ∃ t, X.mg x = some (.str y t)) (hg : Gl X x := by rfl) (hd : (x == ("__debug__" : Str)) = false := by decide) : SE T W X (.Name x pos) (mC (.str y)) := by
  obtain ⟨t, hm⟩ := hm
  exact ⟨_, pe_glob (v := .str y) hg hm ⟨t, rfl⟩ hd, snd_c fun _ _ _ => .str y⟩
theorem se_fn {x : Str} {n : Nat} (hm : X.mg x = some (.ref (T.fns n))) (hg : Gl X x := by rfl) (hd : (x == ("__debug__" : Str)) = false := by decide) : SE T W X (.Name x pos) (mC (.fn n)) :=
  ⟨_, pe_glob (v := .ref (T.fns n)) hg hm rfl hd, snd_c fun _ _ _ => .fn n⟩
end

/-! ### operations on values -/
abbrev F2 := CH → D → D → Option D
abbrev F1 := CH → D → Option D
section
variable (T : Tab) (K : PySem.W.Frag)
def SndR (r : R2) (f : F2) : Prop := ∀ g α H hp x y dx dy d, SH (T.hide g) K α H hp → Rep (T.hide g) K α H x dx → Rep (T.hide g) K α H y dy → f hp dx dy = some d →
  ∀ Q : VK, (∀ v H', Tr α H α H' → SH (T.hide g) K α H' hp → Rep (T.hide g) K α H' v d → Q v H') → r x y H Q
def SndU (r : V → Hp → VK → Prop) (f : F1) : Prop := ∀ g α H hp x dx d, SH (T.hide g) K α H hp → Rep (T.hide g) K α H x dx → f hp dx = some d →
  ∀ Q : VK, (∀ v H', Tr α H α H' → SH (T.hide g) K α H' hp → Rep (T.hide g) K α H' v d → Q v H') → r x H Q
end
def rOr (r r' : R2) : R2 := fun x y H Q => r x y H Q ∨ r' x y H Q
theorem opOr {X : Cx} {f : Value → Value → Sem Value} {r r' : R2} (a : OpR X f r) (b : OpR X f r') : OpR X f (rOr r r') := fun pins s σ H x y v u Q I rx ry h => by
  rcases h with h | h
  · exact a pins s σ H x y v u Q I rx ry h
  · exact b pins s σ H x y v u Q I rx ry h
def fOr (f g : F2) : F2 := fun h x y => match f h x y with | some d => some d | none => g h x y
section
variable {T : Tab} {K : PySem.W.Frag} {W : WX}
theorem SndR.or {r r' : R2} {f g : F2} (a : SndR T K r f) (b : SndR T K r' g) : SndR T K (rOr r r') (fOr f g) := fun g α H hp x y dx dy d sh rx ry e Q q => by
  unfold fOr at e
  split at e
  · next d' e' => cases e; exact .inl (a g α H hp x y dx dy _ sh rx ry e' Q q)
  · exact .inr (b g α H hp x y dx dy d sh rx ry e Q q)
def mBin (f : F2) (ma mb : ME) : ME := fun s h => (ma s h).bind fun x h1 => (mb s h1).bind fun y h2 => lift (f h2 x y) h2
theorem snd_bin {r : R2} {f : F2} {ta tb : TE} {ma mb : ME} (hr : SndR T K r f) (ha : SndE T K W ta ma) (hb : SndE T K W tb mb) : SndE T K W (tOp r ta tb) (mBin f ma mb) := fun g α σ H s h sh sl Q po => by
  refine ha.run sh sl po fun x dx α1 H1 h1 t1 sh1 sl1 r1 po1 => ?_
  refine hb.run sh1 sl1 po1 fun y dy α2 H2 h2 t2 sh2 sl2 r2 po2 => ?_
  unfold lift at po2
  split at po2
  · next d e => exact hr g α2 H2 h2 x y dx dy d sh2 (r1.tr t2) r2 e Q fun v H' t sh' r' => po2 v H' α2 t sh' r'
  · exact po2.elim
def mUn (f : F1) (ma : ME) : ME := fun s h => (ma s h).bind fun x h1 => lift (f h1 x) h1
theorem snd_un {r : V → Hp → VK → Prop} {f : F1} {ta : TE} {ma : ME} (hr : SndU T K r f) (ha : SndE T K W ta ma) : SndE T K W (tUn r ta) (mUn f ma) := fun g α σ H s h sh sl Q po => by
  refine ha.run sh sl po fun x dx α1 H1 h1 t1 sh1 sl1 r1 po1 => ?_
  unfold lift at po1
  split at po1
  · next d e => exact hr g α1 H1 h1 x dx d sh1 r1 e Q fun v H' t sh' r' => po1 v H' α1 t sh' r'
  · exact po1.elim
end
section
variable {T : Tab} {W : WX} {X : Cx} {pos : Pos} {a b : Expr} {ma mb : ME}
theorem se_op {op : Operator} {r : R2} {f : F2} (ho : OpR X (binaryOp op) r) (hr : SndR T X.K r f) (ha : SE T W X a ma) (hb : SE T W X b mb) : SE T W X (.BinOp a op b pos) (mBin f ma mb) := by
  obtain ⟨ta, pa, sa⟩ := ha
  obtain ⟨tb, pb, sb⟩ := hb
  exact ⟨_, pe_op ho pa pb, snd_bin hr sa sb⟩
theorem se_cmp {op : CmpOp} {r : R2} {f : F2} (ho : OpR X (compareOp op) r) (hr : SndR T X.K r f) (ha : SE T W X a ma) (hb : SE T W X b mb) (hm : behindInMarks op b = false) : SE T W X (.Compare a [op] [b] pos) (mBin f ma mb) := by
  obtain ⟨ta, pa, sa⟩ := ha
  obtain ⟨tb, pb, sb⟩ := hb
  exact ⟨_, pe_cmpR ho pa pb hm, snd_bin hr sa sb⟩
end

/-! ### reading lists -/
def lstOf (h : CH) : D → Option (List D)
  | .lst ds => some ds
  | .cell n => match h[n]? with | some (.lst ds) => some ds | _ => none
  | _ => none
/-- any sequence: a list, a tuple, the script -/
def seqOf (h : CH) : D → Option (List D)
  | .tup ds => some ds
  | .scr ns => some (ns.map D.int)
  | d => lstOf h d
section
variable {T : Tab} {K : PySem.W.Frag} {W : WX} {α : List Addr} {H : Hp} {hp : CH}
theorem Rep.lstOf {v : V} {d : D} {ds : List D} (r : Rep T K α H v d) (sh : SH T K α H hp) (e : lstOf hp d = some ds) : ∃ a xs, v = .ref a ∧ H a = some (.lst xs) ∧ Reps T K α H xs ds := by
  cases r with
  | lst h n rs => simp only [Py.lstOf] at e; cases e; exact ⟨_, _, rfl, h, rs⟩
  | cell h =>
    simp only [Py.lstOf] at e
    split at e
    · next ds' e' =>
      cases e
      obtain ⟨xs, h1, h2⟩ := sh.get e' h
      exact ⟨_, xs, rfl, h1, h2⟩
    · cases e
  | _ => simp only [Py.lstOf] at e; cases e
theorem Rep.seqOf {v : V} {d : D} {ds : List D} (r : Rep T K α H v d) (sh : SH T K α H hp) (e : seqOf hp d = some ds) : ∃ a xs, v = .ref a ∧ (SqL K H a xs ∨ SqT K H a xs) ∧ Reps T K α H xs ds := by
  cases r with
  | tup h rs => simp only [Py.seqOf] at e; cases e; exact ⟨_, _, rfl, .inr h.sq, rs⟩
  | scr h => simp only [Py.seqOf] at e; cases e; exact ⟨_, _, rfl, .inl h.sq, Reps.ints⟩
  | lst h n rs => simp only [Py.seqOf, Py.lstOf] at e; cases e; exact ⟨_, _, rfl, .inl (SqL.of h), rs⟩
  | cell h =>
    obtain ⟨a, xs, e1, e2, e3⟩ := (Rep.cell h).lstOf sh (show Py.lstOf hp _ = some ds from e)
    exact ⟨a, xs, e1, .inl (SqL.of e2), e3⟩
  | _ => simp only [Py.seqOf, Py.lstOf] at e; cases e

/-! ### operations -/
def fInt (g : Int → Int → Option D) : F2 := fun _ x y => match x, y with | .int i, .int j => g i j | _, _ => none
theorem sr_int {C : Int → Int → Prop} {gg : Int → Int → V} {f : Int → Int → Option D} (h : ∀ i j d, f i j = some d → C i j ∧ ∀ T α H, Rep T K α H (gg i j) d) : SndR T K (rI C gg) (fInt f) := fun g α H hp x y dx dy d sh rx ry e Q q => by
  unfold fInt at e
  split at e
  · next i j =>
    cases rx; cases ry
    obtain ⟨c, r⟩ := h i j d e
    exact ⟨i, j, rfl, rfl, c, q _ H (Tr.refl α H) sh (r _ α H)⟩
  · cases e
theorem sr_int0 {g : Int → Int → V} {f : Int → Int → D} (h : ∀ i j T α H, Rep T K α H (g i j) (f i j)) : SndR T K (rI0 g) (fInt fun i j => some (f i j)) := fun g α H hp x y dx dy d sh rx ry e Q q => by
  unfold fInt at e
  split at e
  · next i j =>
    cases rx; cases ry
    cases e
    exact ⟨i, j, rfl, rfl, q _ H (Tr.refl α H) sh (h i j _ α H)⟩
  · cases e
/-- a new tuple, a new list -/
theorem Rep.newT {xs : List V} {ds : List D} (sh : SH T K α H hp) (r : Reps T K α H xs ds) {p : Addr} (e : H p = none) : Rep T K α (upd H p (.tup xs)) (.ref p) (.tup ds) :=
  .tup (.inl ⟨.inl upd_same, sh.free e⟩) (r.tr (Tr.new e))
theorem Rep.newL {xs : List V} {ds : List D} (sh : SH T K α H hp) (r : Reps T K α H xs ds) {p : Addr} (e : H p = none) : Rep T K α (upd H p (.lst xs)) (.ref p) (.lst ds) :=
  .lst upd_same (sh.free e) (r.tr (Tr.new e))
def fCatT : F2 := fun _ x y => match x, y with | .tup xs, .tup ys => if xs.length + ys.length ≤ sizeLine then some (.tup (xs ++ ys)) else none | _, _ => none
/-- t + u of tuples, whatever is empty -/
def rCatT2 (K : PySem.W.Frag) : R2 := fun x y H Q => ∃ a b xs ys, x = .ref a ∧ y = .ref b ∧ SqT K H a xs ∧ SqT K H b ys ∧ xs.length + ys.length ≤ sizeLine ∧
  (xs = [] → Q (.ref b) H) ∧ (ys = [] → Q (.ref a) H) ∧ (∀ p, H p = none → Q (.ref p) (upd H p (.tup (xs ++ ys))))
end
theorem op_catT2 {X : Cx} : OpR X (binaryOp .Add) (rCatT2 X.K) := by
  intro pins s σ H x y v u Q I rx ry h
  obtain ⟨a, b, xs, ys, rfl, rfl, ha, hb, hz, q0, q1, q2⟩ := h
  by_cases hx : xs = []
  · subst hx
    cases rx
    cases ry
    obtain ⟨its, r1, p1, _⟩ := I.tuple ha
    obtain ⟨its2, r2, p2, _⟩ := I.tuple hb
    have e1 : its = [] := r1.nil_iff.mpr rfl
    subst e1
    obtain ⟨⟨cls, dd, data, sl⟩, ho, hc, n, hd⟩ := id p1
    obtain ⟨⟨cls2, dd2, data2, sl2⟩, ho2, hc2, n2, hd2⟩ := id p2
    simp only at hc hd hc2 hd2
    subst hc hd hc2 hd2
    exact concat_meets ⟨_, ho, rfl⟩ ⟨_, ho2, rfl⟩ noFill_tuple_add seq_tuple_add PySem.F.slot_tuple_add PySem.F.entry_tuple_add (PySem.F.args_tuple_add_2 _ _)
      (tuple_addW0 a b [].toArray its2.toArray n n2 dd dd2 sl sl2 (by simp)) ⟨ho, ho2, ⟨.ref b, H, I, rfl, q0 rfl⟩⟩
  · exact op_catT pins s σ H _ _ v u Q I rx ry ⟨a, b, xs, ys, rfl, rfl, ha, hb, hx, hz, q1, fun _ => q2⟩
section
variable {T : Tab} {K : PySem.W.Frag} {W : WX} {α : List Addr} {H : Hp} {hp : CH}
theorem sr_catT : SndR T K (rCatT2 K) fCatT := fun g α H hp x y dx dy d sh rx ry e Q q => by
  unfold fCatT at e
  split at e
  · next ds es =>
    split at e
    · next hz =>
      cases e
      cases rx with
      | tup h1 r1 =>
        cases ry with
        | tup h2 r2 =>
          refine ⟨_, _, _, _, rfl, rfl, h1.sq, h2.sq, by rw [r1.length, r2.length]; exact hz, fun z => ?_, fun z => ?_, fun p hn => ?_⟩
          · subst z
            cases r1
            exact q _ H (Tr.refl α H) sh (.tup h2 r2)
          · subst z
            cases r2
            rw [List.append_nil] at q
            exact q _ H (Tr.refl α H) sh (.tup h1 r1)
          · exact q _ _ (Tr.new hn) (sh.new hn) (Rep.newT sh (r1.append r2) hn)
    · cases e
  · cases e
def fCatL : F2 := fun h x y => match lstOf h x, lstOf h y with | some xs, some ys => if xs.length + ys.length ≤ sizeLine then some (.lst (xs ++ ys)) else none | _, _ => none
theorem sr_catL : SndR T K rCat fCatL := fun g α H hp x y dx dy d sh rx ry e Q q => by
  unfold fCatL at e
  split at e
  · next ds es e1 e2 =>
    split at e
    · next hz =>
      cases e
      obtain ⟨a, xs, rfl, h1, r1⟩ := rx.lstOf sh e1
      obtain ⟨b, ys, rfl, h2, r2⟩ := ry.lstOf sh e2
      exact ⟨a, b, xs, ys, rfl, rfl, h1, h2, by rw [r1.length, r2.length]; exact hz, fun p hn => q _ _ (Tr.new hn) (sh.new hn) (Rep.newL sh (r1.append r2) hn)⟩
    · cases e
  · cases e
def fCatS : F2 := fun _ x y => match x, y with | .str a, .str b => if a.length + b.length ≤ sizeLine then some (.str (a ++ b)) else none | _, _ => none
theorem sr_catS : SndR T K (fun x y H Q => ∃ i j, x = .str i ∧ y = .str j ∧ i.length + j.length ≤ sizeLine ∧ Q (.str (i ++ j)) H) fCatS := fun g α H hp x y dx dy d sh rx ry e Q q => by
  unfold fCatS at e
  split at e
  · split at e
    · next hz =>
      cases e
      cases rx; cases ry
      exact ⟨_, _, rfl, rfl, hz, q _ H (Tr.refl α H) sh (.str _)⟩
    · cases e
  · cases e
def fAdd : F2 := fOr (fInt fun i j => some (.int (i + j))) (fOr fCatT (fOr fCatL fCatS))
def fSub : F2 := fInt fun i j => some (.int (i - j))
def fMulI : F2 := fInt fun i j => if i.natAbs.log2 + j.natAbs.log2 < 1000000 then some (.int (i * j)) else none
def fDiv : F2 := fInt fun i j => if 0 < j ∧ j.natAbs.log2 < 9000 then some (.int (i / j)) else none
def fMod : F2 := fInt fun i j => if 0 < j then some (.int (i % j)) else none
end
section
variable {T : Tab} {W : WX} {X : Cx} {pos : Pos} {a b : Expr} {ma mb : ME}
theorem se_add (ha : SE T W X a ma) (hb : SE T W X b mb) : SE T W X (.BinOp a .Add b pos) (mBin fAdd ma mb) :=
  se_op (opOr op_add (opOr op_catT2 (opOr op_cat op_add_str))) (SndR.or (sr_int0 fun _ _ _ _ _ => .int _) (SndR.or sr_catT (SndR.or sr_catL sr_catS))) ha hb
theorem se_sub (ha : SE T W X a ma) (hb : SE T W X b mb) : SE T W X (.BinOp a .Sub b pos) (mBin fSub ma mb) := se_op op_sub (sr_int0 fun _ _ _ _ _ => .int _) ha hb
theorem se_div (ha : SE T W X a ma) (hb : SE T W X b mb) : SE T W X (.BinOp a .FloorDiv b pos) (mBin fDiv ma mb) := se_op op_fdivW (sr_int fun i j d e => by
  split at e
  · next h => cases e; exact ⟨h, fun _ _ _ => .int _⟩
  · cases e) ha hb
theorem se_mod (ha : SE T W X a ma) (hb : SE T W X b mb) : SE T W X (.BinOp a .Mod b pos) (mBin fMod ma mb) := se_op op_mod (sr_int fun i j d e => by
  split at e
  · next h => cases e; exact ⟨h, fun _ _ _ => .int _⟩
  · cases e) ha hb
end
end Py

set_option Elab.async false
set_option linter.all false
set_option maxRecDepth 100000
namespace Py
open PySem PySem.Spec PyProof.Rows L2

/-! ### data for == -/
def mapOpt {β γ : Type} (f : β → Option γ) : List β → Option (List γ)
  | [] => some []
  | x :: xs => match f x with | some y => (match mapOpt f xs with | some ys => some (y :: ys) | none => none) | none => none
def toPy (h : CH) : Nat → D → Option PyData
  | 0, _ => none
  | k + 1, d => match d with
    | .non => some .none
    | .bl b => some (.bool b)
    | .int i => some (.int i)
    | .str s => some (.str s)
    | .tup ds => (mapOpt (toPy h k) ds).map .tuple
    | .lst ds => (mapOpt (toPy h k) ds).map .list
    | .cell n => match h[n]? with | some (.lst ds) => (mapOpt (toPy h k) ds).map .list | _ => none
    | .scr ns => some (.list (ns.map .int))
    | _ => none
section
variable {T : Tab} {K : PySem.W.Frag} {W : WX} {α : List Addr} {H : Hp} {hp : CH}
theorem dp_ints : ∀ {ns : List Int}, DpAll K H (ns.map V.int) (ns.map PyData.int)
  | [] => .nil
  | n :: ns => .cons (.int n) dp_ints
theorem dp_all {f : D → Option PyData} (hf : ∀ v d p, Rep T K α H v d → f d = some p → Dp K H v p) : ∀ {vs : List V} {ds : List D} {ps : List PyData}, Reps T K α H vs ds → mapOpt f ds = some ps → DpAll K H vs ps
  | _, _, ps, .nil, e => by unfold mapOpt at e; cases e; exact .nil
  | _, _, ps, .cons r rs, e => by
    unfold mapOpt at e
    split at e
    · next y e1 =>
      split at e
      · next ys e2 => cases e; exact .cons (hf _ _ _ r e1) (dp_all hf rs e2)
      · cases e
    · cases e
theorem Rep.dp (sh : SH T K α H hp) : ∀ (k : Nat) (v : V) (d : D) (p : PyData), Rep T K α H v d → toPy hp k d = some p → Dp K H v p
  | 0, _, _, _, _, e => by unfold toPy at e; cases e
  | k + 1, v, d, p, r, e => by
    have ih := Rep.dp sh k
    unfold toPy at e
    cases r with
    | non => cases e; exact .non
    | bl b => cases e; exact .bl b
    | int i => cases e; exact .int i
    | str x => cases e; exact .str x
    | tup h rs =>
      simp only [Option.map_eq_some_iff] at e
      obtain ⟨ps, e1, rfl⟩ := e
      exact .tup h.sq (dp_all ih rs e1)
    | lst h n rs =>
      simp only [Option.map_eq_some_iff] at e
      obtain ⟨ps, e1, rfl⟩ := e
      exact .lst (SqL.of h) (dp_all ih rs e1)
    | scr h => cases e; exact .lst h.sq dp_ints
    | cell h =>
      simp only at e
      split at e
      · next ds e' =>
        simp only [Option.map_eq_some_iff] at e
        obtain ⟨ps, e1, rfl⟩ := e
        obtain ⟨xs, h1, h2⟩ := sh.get e' h
        exact .lst (SqL.of h1) (dp_all ih h2 e1)
      · cases e
    | _ => cases e
/-- == of data that is no instance -/
def eqD (h : CH) (x y : D) : Option Bool :=
  match toPy h 9 x, toPy h 9 y with
  | some p, some q => if SeqAt.shaped p = true ∧ SeqAt.shaped q = true then some (PyData.eqv p q) else none
  | _, _ => none
def fEqD : F2 := fun h x y => (eqD h x y).map .bl
def fNeD : F2 := fun h x y => (eqD h x y).map fun b => .bl (!b)
theorem sr_eqD : SndR T K (rEqD K) fEqD := fun g α H hp x y dx dy d sh rx ry e Q q => by
  unfold fEqD eqD at e
  split at e
  · next p p' e1 e2 =>
    split at e
    · next hs =>
      cases e
      exact ⟨p, p', rx.dp sh _ _ _ _ e1, ry.dp sh _ _ _ _ e2, hs.1, hs.2, q _ H (Tr.refl α H) sh (.bl _)⟩
    · cases e
  · cases e
theorem sr_neD : SndR T K (rNeD K) fNeD := fun g α H hp x y dx dy d sh rx ry e Q q => by
  unfold fNeD eqD at e
  split at e
  · next p p' e1 e2 =>
    split at e
    · next hs =>
      cases e
      exact ⟨p, p', rx.dp sh _ _ _ _ e1, ry.dp sh _ _ _ _ e2, hs.1, hs.2, q _ H (Tr.refl α H) sh (.bl _)⟩
    · cases e
  · cases e
/-- is None -/
def isNon : D → Bool
  | .non => true
  | _ => false
theorem Rep.isNon {v : V} {d : D} (r : Rep T K α H v d) : decide (v = V.non) = isNon d := by
  cases r <;> rfl
def fIs : F2 := fun _ x y => match y with | .non => some (.bl (isNon x)) | _ => none
def fIsNot : F2 := fun _ x y => match y with | .non => some (.bl (!isNon x)) | _ => none
theorem sr_is : SndR T K (fun x y H Q => y = .non ∧ Q (.bl (decide (x = .non))) H) fIs := fun g α H hp x y dx dy d sh rx ry e Q q => by
  unfold fIs at e
  split at e
  · cases e; cases ry
    exact ⟨rfl, by rw [rx.isNon]; exact q _ H (Tr.refl α H) sh (.bl _)⟩
  · cases e
theorem sr_isNot : SndR T K (fun x y H Q => y = .non ∧ Q (.bl (!decide (x = .non))) H) fIsNot := fun g α H hp x y dx dy d sh rx ry e Q q => by
  unfold fIsNot at e
  split at e
  · cases e; cases ry
    exact ⟨rfl, by rw [rx.isNon]; exact q _ H (Tr.refl α H) sh (.bl _)⟩
  · cases e
def fLt : F2 := fInt fun i j => some (.bl (decide (i < j)))
def fLe : F2 := fInt fun i j => some (.bl (decide (i ≤ j)))
def fGt : F2 := fInt fun i j => some (.bl (decide (j < i)))
def fGe : F2 := fInt fun i j => some (.bl (decide (j ≤ i)))
end
section
variable {T : Tab} {W : WX} {X : Cx} {pos : Pos} {a b : Expr} {ma mb mc : ME}
theorem se_lt (ha : SE T W X a ma) (hb : SE T W X b mb) : SE T W X (.Compare a [.Lt] [b] pos) (mBin fLt ma mb) := se_cmp op_lt (sr_int0 fun _ _ _ _ _ => .bl _) ha hb (nomark _)
theorem se_le (ha : SE T W X a ma) (hb : SE T W X b mb) : SE T W X (.Compare a [.LtE] [b] pos) (mBin fLe ma mb) := se_cmp op_le (sr_int0 fun _ _ _ _ _ => .bl _) ha hb (nomark _)
theorem se_gt (ha : SE T W X a ma) (hb : SE T W X b mb) : SE T W X (.Compare a [.Gt] [b] pos) (mBin fGt ma mb) := se_cmp op_gt (sr_int0 fun _ _ _ _ _ => .bl _) ha hb (nomark _)
theorem se_ge (ha : SE T W X a ma) (hb : SE T W X b mb) : SE T W X (.Compare a [.GtE] [b] pos) (mBin fGe ma mb) := se_cmp op_ge (sr_int0 fun _ _ _ _ _ => .bl _) ha hb (nomark _)
theorem se_eq (hu : X.A.units + 64 < cLine) (ha : SE T W X a ma) (hb : SE T W X b mb) : SE T W X (.Compare a [.Eq] [b] pos) (mBin fEqD ma mb) := se_cmp (op_eqD hu) sr_eqD ha hb (nomark _)
theorem se_ne (hu : X.A.units + 64 < cLine) (ha : SE T W X a ma) (hb : SE T W X b mb) : SE T W X (.Compare a [.NotEq] [b] pos) (mBin fNeD ma mb) := se_cmp (op_neD hu) sr_neD ha hb (nomark _)
theorem se_is (ha : SE T W X a ma) (hb : SE T W X b mb) : SE T W X (.Compare a [.Is] [b] pos) (mBin fIs ma mb) := se_cmp op_isN sr_is ha hb (nomark _)
theorem se_isNot (ha : SE T W X a ma) (hb : SE T W X b mb) : SE T W X (.Compare a [.IsNot] [b] pos) (mBin fIsNot ma mb) := se_cmp op_notN sr_isNot ha hb (nomark _)
end

/-! ### a op b op' c -/
def mChain (f g : F2) (ma mb mc : ME) : ME := fun s h => (ma s h).bind fun x h1 => (mb s h1).bind fun y h2 => match f h2 x y with
  | some (.bl true) => (mc s h2).bind fun z h3 => lift (g h3 y z) h3
  | some (.bl false) => .ok (.bl false) h2
  | _ => .no
section
variable {T : Tab} {K : PySem.W.Frag} {W : WX}
/-- a comparison's answer is a bool -/
def Boolish (f : F2) : Prop := ∀ h x y d, f h x y = some d → ∃ b, d = .bl b
theorem snd_chain {r r' : R2} {f g : F2} {ta tb tc : TE} {ma mb mc : ME} (hr : SndR T K r f) (hr' : SndR T K r' g) (ha : SndE T K W ta ma) (hb : SndE T K W tb mb) (hc : SndE T K W tc mc) : SndE T K W (tChain r r' ta tb tc) (mChain f g ma mb mc) := fun g α σ H s h sh sl Q po => by
  refine ha.run sh sl po fun x dx α1 H1 h1 t1 sh1 sl1 r1 po1 => ?_
  refine hb.run sh1 sl1 po1 fun y dy α2 H2 h2 t2 sh2 sl2 r2 po2 => ?_
  split at po2
  · next e =>
    refine hr g α2 H2 h2 x y dx dy _ sh2 (r1.tr t2) r2 e _ fun v H' t sh' r' => ?_
    cases r'
    refine ⟨true, rfl, ?_⟩
    rw [if_pos rfl]
    have po3 := PoE.tr t po2
    refine hc.run sh' (sl2.tr t) po3 fun z dz α3 H3 h3 t3 sh3 sl3 r3 po4 => ?_
    unfold lift at po4
    split at po4
    · next d e3 => exact hr' g α3 H3 h3 y z dy dz d sh3 ((r2.tr t).tr t3) r3 e3 Q fun v H'' t' sh'' r'' => po4 v H'' α3 t' sh'' r''
    · exact po4.elim
  · next e =>
    refine hr g α2 H2 h2 x y dx dy _ sh2 (r1.tr t2) r2 e _ fun v H' t sh' r' => ?_
    cases r'
    refine ⟨false, rfl, ?_⟩
    rw [if_neg Bool.false_ne_true]
    exact po2 _ H' α2 t sh' (.bl false)
  · exact po2.elim
end
section
variable {T : Tab} {W : WX} {X : Cx} {pos : Pos} {a b c : Expr} {ma mb mc : ME}
theorem se_chain {op op' : CmpOp} {r r' : R2} {f g : F2} (ho : OpR X (compareOp op) r) (ho' : OpR X (compareOp op') r') (hr : SndR T X.K r f) (hr' : SndR T X.K r' g) (ha : SE T W X a ma) (hb : SE T W X b mb) (hc : SE T W X c mc)
    (hm : lastMarks [op, op'] [b, c] = false := by with_unfolding_all rfl) : SE T W X (.Compare a [op, op'] [b, c] pos) (mChain f g ma mb mc) := by
  obtain ⟨ta, pa, sa⟩ := ha
  obtain ⟨tb, pb, sb⟩ := hb
  obtain ⟨tc, pc, sc⟩ := hc
  exact ⟨_, pe_chain ho ho' pa pb pc hm, snd_chain hr hr' sa sb sc⟩
theorem se_leLe (ha : SE T W X a ma) (hb : SE T W X b mb) (hc : SE T W X c mc) (hm : lastMarks [.LtE, .LtE] [b, c] = false := by with_unfolding_all rfl) : SE T W X (.Compare a [.LtE, .LtE] [b, c] pos) (mChain fLe fLe ma mb mc) :=
  se_chain op_le op_le (sr_int0 fun _ _ _ _ _ => .bl _) (sr_int0 fun _ _ _ _ _ => .bl _) ha hb hc hm
theorem se_leLt (ha : SE T W X a ma) (hb : SE T W X b mb) (hc : SE T W X c mc) (hm : lastMarks [.LtE, .Lt] [b, c] = false := by with_unfolding_all rfl) : SE T W X (.Compare a [.LtE, .Lt] [b, c] pos) (mChain fLe fLt ma mb mc) :=
  se_chain op_le op_lt (sr_int0 fun _ _ _ _ _ => .bl _) (sr_int0 fun _ _ _ _ _ => .bl _) ha hb hc hm
end

/-! ### tests -/
def SndT (T : Tab) (K : PySem.W.Frag) (W : WX) (t : TT) (m : ME) : Prop := ∀ g α σ H s h, SH (T.hide g) K α H h → SL (T.hide g) K α H σ s → ∀ Q : Bool → Hp → Prop, PoE (T.hide g) K α σ H s (fun v H' => ∃ b, v = .bl b ∧ Q b H') W (m s h) → t σ H Q
def ST (T : Tab) (W : WX) (X : Cx) (e : Expr) (m : ME) : Prop := ∃ t, PT X e t ∧ SndT T X.K W t m
def SW (T : Tab) (W : WX) (X : Cx) (e : Expr) (m : ME) : Prop := ∃ t, PW X e t ∧ SndT T X.K W t m
/-- a value's truth -/
def truth (h : CH) : D → Option Bool
  | .non => some false
  | .bl b => some b
  | .int i => some (i != 0)
  | .str y => if y.length ≤ sizeLine then some ((y.length : Int) != 0) else none
  | d => (seqOf h d).map fun ds => !ds.isEmpty
def mAnd (ma mb : ME) : ME := fun s h => (ma s h).bind fun x h1 => match x with | .bl true => mb s h1 | .bl false => .ok (.bl false) h1 | _ => .no
def mOr (ma mb : ME) : ME := fun s h => (ma s h).bind fun x h1 => match x with | .bl true => .ok (.bl true) h1 | .bl false => mb s h1 | _ => .no
def mNot (ma : ME) : ME := fun s h => (ma s h).bind fun x h1 => match x with | .bl b => .ok (.bl (!b)) h1 | _ => .no
def mIf (mc ma mb : ME) : ME := fun s h => (mc s h).bind fun x h1 => match x with | .bl true => ma s h1 | .bl false => mb s h1 | _ => .no
def mTru (ma : ME) : ME := fun s h => (ma s h).bind fun x h1 => match truth h1 x with | some b => .ok (.bl b) h1 | none => .no
section
variable {T : Tab} {K : PySem.W.Frag} {W : WX} {α : List Addr} {σ : L2.St} {H : Hp} {s : SLS} {hp : CH}
theorem Reps.isEmpty {vs : List V} {ds : List D} (r : Reps T K α H vs ds) : vs.isEmpty = ds.isEmpty := by cases r <;> rfl
theorem truth_gen {v : V} {d : D} {ds : List D} (r : Rep T K α H v d) (sh : SH T K α H hp) (e : seqOf hp d = some ds) : TruV K v H (!ds.isEmpty) := by
  obtain ⟨a, xs, rfl, e3, r3⟩ := r.seqOf sh e
  rcases e3 with e3 | e3
  · exact .inl ⟨xs, e3, by rw [r3.isEmpty]⟩
  · exact .inr (.inl ⟨xs, e3, by rw [r3.isEmpty]⟩)
theorem truth_ok {v : V} {d : D} {b : Bool} (r : Rep T K α H v d) (sh : SH T K α H hp) (e : truth hp d = some b) : TruV K v H b := by
  cases d with
  | non => cases r; cases e; rfl
  | bl b => cases r; cases e; rfl
  | int i => cases r; cases e; rfl
  | str x =>
    cases r
    unfold truth at e
    simp only at e
    split at e
    · next h => cases e; exact ⟨h, rfl⟩
    · cases e
  | _ =>
    simp only [truth, Option.map_eq_some_iff] at e
    obtain ⟨ds', e1, rfl⟩ := e
    exact truth_gen r sh e1
/-- a test, then what follows -/
theorem SndT.run {ta : TT} {ma : ME} (ha : SndT T K W ta ma) {g : List Addr} (sh : SH (T.hide g) K α H hp) (sl : SL (T.hide g) K α H σ s) {G : Bool → Hp → Prop} {Q : VK} {k : D → CH → RE}
    (po : PoE (T.hide g) K α σ H s Q W ((ma s hp).bind k)) (hk : ∀ d h, (∀ b, d ≠ .bl b) → k d h = .no)
    (step : ∀ b α1 H1 h1, Tr α H α1 H1 → SH (T.hide g) K α1 H1 h1 → SL (T.hide g) K α1 H1 σ s → PoE (T.hide g) K α1 σ H1 s Q W (k (.bl b) h1) → G b H1) : ta σ H G := by
  refine ha g α σ H s hp sh sl G ?_
  generalize hm : ma s hp = r at po
  cases r with
  | ok d h1 =>
    intro v H1 α1 t sh1 r1
    have po' : PoE (T.hide g) K α1 σ H1 s Q W (k d h1) := PoE.tr t po
    cases d with
    | bl b => cases r1; exact ⟨b, rfl, step b α1 H1 h1 t sh1 (sl.tr t) po'⟩
    | _ => rw [hk _ _ (fun b z => by cases z)] at po'; exact po'.elim
  | ex c fs h1 => exact po
  | no => exact po
theorem SndT.runS {ta : TT} {ma : ME} (ha : SndT T K W ta ma) {g : List Addr} (sh : SH (T.hide g) K α H hp) (sl : SL (T.hide g) K α H σ s) {G : Bool → Hp → Prop} {D : Ends} {k : Py.D → CH → RS}
    (po : PoS (T.hide g) K α H D W ((ma s hp).bindS s k)) (hk : ∀ d h, (∀ b, d ≠ .bl b) → k d h = .no)
    (step : ∀ b α1 H1 h1, Tr α H α1 H1 → SH (T.hide g) K α1 H1 h1 → SL (T.hide g) K α1 H1 σ s → PoS (T.hide g) K α1 H1 D W (k (.bl b) h1) → G b H1) : ta σ H G := by
  refine ha g α σ H s hp sh sl G ?_
  generalize hm : ma s hp = r at po
  cases r with
  | ok d h1 =>
    intro v H1 α1 t sh1 r1
    have po' : PoS (T.hide g) K α1 H1 D W (k d h1) := PoS.tr t po
    cases d with
    | bl b => cases r1; exact ⟨b, rfl, step b α1 H1 h1 t sh1 (sl.tr t) po'⟩
    | _ => rw [hk _ _ (fun b z => by cases z)] at po'; exact po'.elim
  | ex c fs h1 => exact fun cls dx H2 α2 t sh2 x => po cls dx σ H2 α2 t sh2 (sl.tr t) x
  | no => exact po
end
section
variable {T : Tab} {W : WX} {X : Cx} {pos : Pos} {a b c : Expr} {ma mb mc : ME} {rest : List Expr}
theorem st_val (ha : SE T W X a ma) (he : ∀ whole, isTrue a X.env whole = (do let v ← whole; standAt a.pos; holding [v] (truthy v)) := by intro _; rfl) : ST T W X a ma := by
  obtain ⟨ta, pa, sa⟩ := ha
  exact ⟨_, pt_val pa he, fun g α σ H s h sh sl Q po => sa g α σ H s h sh sl _ po⟩
theorem st_tru (ha : SE T W X a ma) (he : ∀ whole, isTrue a X.env whole = (do let v ← whole; standAt a.pos; holding [v] (truthy v)) := by intro _; rfl) : ST T W X a (mTru ma) := by
  obtain ⟨ta, pa, sa⟩ := ha
  refine ⟨_, pt_truth pa he, fun g α σ H s h sh sl Q po => ?_⟩
  refine sa.run sh sl po fun x dx α1 H1 h1 t1 sh1 sl1 r1 po1 => ?_
  split at po1
  · next b e =>
    obtain ⟨c, e1, q⟩ := po1 _ H1 α1 (Tr.refl _ _) sh1 (.bl b)
    cases e1
    exact ⟨b, truth_ok r1 sh1 e, q⟩
  · exact po1.elim
theorem st_cmp {op : CmpOp} {r : R2} {f : F2} (ho : OpR X (compareOp op) r) (hr : SndR T X.K r f) (ha : SE T W X a ma) (hb : SE T W X b mb) (hm : behindInMarks op b = false) : ST T W X (.Compare a [op] [b] pos) (mBin f ma mb) := by
  obtain ⟨ta, pa, sa⟩ := ha
  obtain ⟨tb, pb, sb⟩ := hb
  exact ⟨_, pt_cmpR ho pa pb hm, fun g α σ H s h sh sl Q po => snd_bin hr sa sb g α σ H s h sh sl _ po⟩
theorem st_lt (ha : SE T W X a ma) (hb : SE T W X b mb) : ST T W X (.Compare a [.Lt] [b] pos) (mBin fLt ma mb) := st_cmp op_lt (sr_int0 fun _ _ _ _ _ => .bl _) ha hb (nomark _)
theorem st_le (ha : SE T W X a ma) (hb : SE T W X b mb) : ST T W X (.Compare a [.LtE] [b] pos) (mBin fLe ma mb) := st_cmp op_le (sr_int0 fun _ _ _ _ _ => .bl _) ha hb (nomark _)
theorem st_gt (ha : SE T W X a ma) (hb : SE T W X b mb) : ST T W X (.Compare a [.Gt] [b] pos) (mBin fGt ma mb) := st_cmp op_gt (sr_int0 fun _ _ _ _ _ => .bl _) ha hb (nomark _)
theorem st_ge (ha : SE T W X a ma) (hb : SE T W X b mb) : ST T W X (.Compare a [.GtE] [b] pos) (mBin fGe ma mb) := st_cmp op_ge (sr_int0 fun _ _ _ _ _ => .bl _) ha hb (nomark _)
theorem st_eq (hu : X.A.units + 64 < cLine) (ha : SE T W X a ma) (hb : SE T W X b mb) : ST T W X (.Compare a [.Eq] [b] pos) (mBin fEqD ma mb) := st_cmp (op_eqD hu) sr_eqD ha hb (nomark _)
theorem st_ne (hu : X.A.units + 64 < cLine) (ha : SE T W X a ma) (hb : SE T W X b mb) : ST T W X (.Compare a [.NotEq] [b] pos) (mBin fNeD ma mb) := st_cmp (op_neD hu) sr_neD ha hb (nomark _)
theorem st_is (ha : SE T W X a ma) (hb : SE T W X b mb) : ST T W X (.Compare a [.Is] [b] pos) (mBin fIs ma mb) := st_cmp op_isN sr_is ha hb (nomark _)
theorem st_isNot (ha : SE T W X a ma) (hb : SE T W X b mb) : ST T W X (.Compare a [.IsNot] [b] pos) (mBin fIsNot ma mb) := st_cmp op_notN sr_isNot ha hb (nomark _)
theorem st_chain {op op' : CmpOp} {r r' : R2} {f g : F2} (ho : OpR X (compareOp op) r) (ho' : OpR X (compareOp op') r') (hr : SndR T X.K r f) (hr' : SndR T X.K r' g) (ha : SE T W X a ma) (hb : SE T W X b mb) (hc : SE T W X c mc)
    (hm : lastMarks [op, op'] [b, c] = false := by with_unfolding_all rfl) : ST T W X (.Compare a [op, op'] [b, c] pos) (mChain f g ma mb mc) := by
  obtain ⟨ta, pa, sa⟩ := ha
  obtain ⟨tb, pb, sb⟩ := hb
  obtain ⟨tc, pc, sc⟩ := hc
  exact ⟨_, pt_chain ho ho' pa pb pc hm, fun g α σ H s h sh sl Q po => snd_chain hr hr' sa sb sc g α σ H s h sh sl _ po⟩
theorem st_leLe (ha : SE T W X a ma) (hb : SE T W X b mb) (hc : SE T W X c mc) (hm : lastMarks [.LtE, .LtE] [b, c] = false := by with_unfolding_all rfl) : ST T W X (.Compare a [.LtE, .LtE] [b, c] pos) (mChain fLe fLe ma mb mc) :=
  st_chain op_le op_le (sr_int0 fun _ _ _ _ _ => .bl _) (sr_int0 fun _ _ _ _ _ => .bl _) ha hb hc hm
theorem st_leLt (ha : SE T W X a ma) (hb : SE T W X b mb) (hc : SE T W X c mc) (hm : lastMarks [.LtE, .Lt] [b, c] = false := by with_unfolding_all rfl) : ST T W X (.Compare a [.LtE, .Lt] [b, c] pos) (mChain fLe fLt ma mb mc) :=
  st_chain op_le op_lt (sr_int0 fun _ _ _ _ _ => .bl _) (sr_int0 fun _ _ _ _ _ => .bl _) ha hb hc hm
theorem SW.pt (h : SW T W X a ma) : ST T W X a ma := by
  obtain ⟨t, p, q⟩ := h
  exact ⟨t, p.pt, q⟩
theorem sw_and1 (ha : ST T W X a ma) : SW T W X (.BoolOp .And [a] pos) ma := by
  obtain ⟨t, p, q⟩ := ha
  exact ⟨t, pw_and1 p, q⟩
theorem sw_or1 (ha : ST T W X a ma) : SW T W X (.BoolOp .Or [a] pos) ma := by
  obtain ⟨t, p, q⟩ := ha
  exact ⟨t, pw_or1 p, q⟩
theorem sw_and (ha : ST T W X a ma) (hb : SW T W X (.BoolOp .And (b :: rest) pos) mb) : SW T W X (.BoolOp .And (a :: b :: rest) pos) (mAnd ma mb) := by
  obtain ⟨ta, pa, sa⟩ := ha
  obtain ⟨tb, pb, sb⟩ := hb
  refine ⟨_, pw_and pa pb, fun g α σ H s h sh sl Q po => ?_⟩
  refine sa.run sh sl po (fun d h hb => by cases d with | bl b => exact absurd rfl (hb b) | _ => rfl) fun b α1 H1 h1 t1 sh1 sl1 po1 => ?_
  cases b with
  | true =>
    rw [if_pos rfl]
    exact sb g α1 σ H1 s h1 sh1 sl1 Q po1
  | false =>
    rw [if_neg Bool.false_ne_true]
    obtain ⟨c, e1, q⟩ := po1 _ H1 α1 (Tr.refl _ _) sh1 (.bl false)
    cases e1
    exact q
theorem sw_or (ha : ST T W X a ma) (hb : SW T W X (.BoolOp .Or (b :: rest) pos) mb) : SW T W X (.BoolOp .Or (a :: b :: rest) pos) (mOr ma mb) := by
  obtain ⟨ta, pa, sa⟩ := ha
  obtain ⟨tb, pb, sb⟩ := hb
  refine ⟨_, pw_or pa pb, fun g α σ H s h sh sl Q po => ?_⟩
  refine sa.run sh sl po (fun d h hb => by cases d with | bl b => exact absurd rfl (hb b) | _ => rfl) fun b α1 H1 h1 t1 sh1 sl1 po1 => ?_
  cases b with
  | true =>
    rw [if_pos rfl]
    obtain ⟨c, e1, q⟩ := po1 _ H1 α1 (Tr.refl _ _) sh1 (.bl true)
    cases e1
    exact q
  | false =>
    rw [if_neg Bool.false_ne_true]
    exact sb g α1 σ H1 s h1 sh1 sl1 Q po1
theorem st_not (ha : ST T W X a ma) : ST T W X (.UnaryOp .Not a pos) (mNot ma) := by
  obtain ⟨ta, pa, sa⟩ := ha
  refine ⟨_, pt_not pa, fun g α σ H s h sh sl Q po => ?_⟩
  refine sa.run sh sl po (fun d h hb => by cases d with | bl b => exact absurd rfl (hb b) | _ => rfl) fun b α1 H1 h1 t1 sh1 sl1 po1 => ?_
  obtain ⟨c, e1, q⟩ := po1 _ H1 α1 (Tr.refl _ _) sh1 (.bl (!b))
  cases e1
  exact q
/-! as values -/
theorem se_one {op : BoolOp} (ha : SE T W X a ma) : SE T W X (.BoolOp op [a] pos) ma := by
  obtain ⟨ta, pa, sa⟩ := ha
  exact ⟨_, pe_one pa, sa⟩
theorem se_and (ha : SE T W X a ma) (hb : SE T W X (.BoolOp .And (b :: rest) pos) mb) : SE T W X (.BoolOp .And (a :: b :: rest) pos) (mAnd ma mb) := by
  obtain ⟨ta, pa, sa⟩ := ha
  obtain ⟨tb, pb, sb⟩ := hb
  refine ⟨_, pe_and pa pb, fun g α σ H s h sh sl Q po => ?_⟩
  refine sa.run sh sl po fun x dx α1 H1 h1 t1 sh1 sl1 r1 po1 => ?_
  cases r1 with
  | bl b =>
    refine ⟨b, rfl, ?_⟩
    cases b with
    | true =>
      rw [if_pos rfl]
      exact sb g α1 σ H1 s h1 sh1 sl1 Q po1
    | false =>
      rw [if_neg Bool.false_ne_true]
      exact po1 _ H1 α1 (Tr.refl _ _) sh1 (.bl false)
  | _ => exact po1.elim
theorem se_or (ha : SE T W X a ma) (hb : SE T W X (.BoolOp .Or (b :: rest) pos) mb) : SE T W X (.BoolOp .Or (a :: b :: rest) pos) (mOr ma mb) := by
  obtain ⟨ta, pa, sa⟩ := ha
  obtain ⟨tb, pb, sb⟩ := hb
  refine ⟨_, pe_or pa pb, fun g α σ H s h sh sl Q po => ?_⟩
  refine sa.run sh sl po fun x dx α1 H1 h1 t1 sh1 sl1 r1 po1 => ?_
  cases r1 with
  | bl b =>
    refine ⟨b, rfl, ?_⟩
    cases b with
    | true =>
      rw [if_pos rfl]
      exact po1 _ H1 α1 (Tr.refl _ _) sh1 (.bl true)
    | false =>
      rw [if_neg Bool.false_ne_true]
      exact sb g α1 σ H1 s h1 sh1 sl1 Q po1
  | _ => exact po1.elim
theorem se_not (ha : SE T W X a ma) : SE T W X (.UnaryOp .Not a pos) (mNot ma) := by
  obtain ⟨ta, pa, sa⟩ := ha
  refine ⟨_, pe_not pa, fun g α σ H s h sh sl Q po => ?_⟩
  refine sa.run sh sl po fun x dx α1 H1 h1 t1 sh1 sl1 r1 po1 => ?_
  cases r1 with
  | bl b => exact ⟨b, rfl, po1 _ H1 α1 (Tr.refl _ _) sh1 (.bl _)⟩
  | _ => exact po1.elim
theorem se_if (hc : ST T W X c mc) (ha : SE T W X a ma) (hb : SE T W X b mb) : SE T W X (.IfExp c a b pos) (mIf mc ma mb) := by
  obtain ⟨tc, pc, sc⟩ := hc
  obtain ⟨ta, pa, sa⟩ := ha
  obtain ⟨tb, pb, sb⟩ := hb
  refine ⟨_, pe_ifExp pc pa pb, fun g α σ H s h sh sl Q po => ?_⟩
  refine sc.run sh sl po (fun d h hb => by cases d with | bl b => exact absurd rfl (hb b) | _ => rfl) fun b α1 H1 h1 t1 sh1 sl1 po1 => ?_
  cases b with
  | true =>
    rw [if_pos rfl]
    exact sa g α1 σ H1 s h1 sh1 sl1 Q po1
  | false =>
    rw [if_neg Bool.false_ne_true]
    exact sb g α1 σ H1 s h1 sh1 sl1 Q po1
end
end Py

set_option Elab.async false
set_option linter.all false
set_option maxRecDepth 100000
namespace Py
open PySem PySem.Spec PyProof.Rows L2

/-! ### arguments, displays -/
def mNil : MA := fun _ h => .ok [] h
def mCons (m : ME) (r : MA) : MA := fun s h => (m s h).bindA fun d h1 => (r s h1).bindA fun ds h2 => .ok (d :: ds) h2
def mTup (m : MA) : ME := fun s h => (m s h).bind fun ds h1 => if ds.length ≤ sizeLine then .ok (.tup ds) h1 else .no
def mLst (m : MA) : ME := fun s h => (m s h).bind fun ds h1 => if ds.length ≤ sizeLine then .ok (.lst ds) h1 else .no
def mLstC (m : MA) : ME := fun s h => (m s h).bind fun ds h1 => if ds.length ≤ sizeLine then .ok (.cell h1.length) (h1 ++ [.lst ds]) else .no
section
variable {T : Tab} {W : WX} {X : Cx} {pos : Pos} {e : Expr} {es : List Expr} {m : ME} {r : MA}
theorem sa_nil : SA T W X [] mNil := ⟨_, pa_nil, fun g α σ H s h sh sl Q po => po [] H α (Tr.refl α H) sh .nil⟩
theorem sa_cons (ha : SE T W X e m) (hr : SA T W X es r) (hs : starEach (e :: es) X.env = (false, eval e X.env) :: starEach es X.env := by rfl) : SA T W X (e :: es) (mCons m r) := by
  obtain ⟨ta, pa, sa⟩ := ha
  obtain ⟨tb, pb, sb⟩ := hr
  refine ⟨_, pa_cons pa pb hs, fun g α σ H s h sh sl Q po => ?_⟩
  refine sa.runA sh sl po fun x dx α1 H1 h1 t1 sh1 sl1 r1 po1 => ?_
  refine sb.runA sh1 sl1 po1 fun xs ds α2 H2 h2 t2 sh2 sl2 r2 po2 => ?_
  exact po2 _ H2 α2 (Tr.refl _ _) sh2 (.cons (r1.tr t2) r2)
theorem se_tup (ha : SA T W X es r) : SE T W X (.Tuple es 0 pos) (mTup r) := by
  obtain ⟨ta, pa, sa⟩ := ha
  refine ⟨_, pe_tup pa, fun g α σ H s h sh sl Q po => ?_⟩
  refine sa.run sh sl po fun xs ds α1 H1 h1 t1 sh1 sl1 r1 po1 => ?_
  split at po1
  · next hz => exact ⟨by rw [r1.length]; exact hz, fun p hn => po1 _ _ α1 (Tr.new hn) (sh1.new hn) (Rep.newT sh1 r1 hn)⟩
  · exact po1.elim
theorem se_lst (ha : SA T W X es r) : SE T W X (.List es pos) (mLst r) := by
  obtain ⟨ta, pa, sa⟩ := ha
  refine ⟨_, pe_lst pa, fun g α σ H s h sh sl Q po => ?_⟩
  refine sa.run sh sl po fun xs ds α1 H1 h1 t1 sh1 sl1 r1 po1 => ?_
  split at po1
  · next hz => exact ⟨by rw [r1.length]; exact hz, fun p hn => po1 _ _ α1 (Tr.new hn) (sh1.new hn) (Rep.newL sh1 r1 hn)⟩
  · exact po1.elim
theorem newc_lst {K : PySem.W.Frag} {α : List Addr} {H : Hp} {hp : CH} {xs : List V} {ds : List D} (sh : SH T K α H hp) (r : Reps T K α H xs ds) {p : Addr} (e : H p = none) :
    SH T K (α ++ [p]) (upd H p (.lst xs)) (hp ++ [.lst ds]) ∧ Rep T K (α ++ [p]) (upd H p (.lst xs)) (.ref p) (.cell hp.length) := by
  refine ⟨sh.newc e ⟨xs, upd_same, r.tr (Tr.newc e)⟩, .cell ?_⟩
  rw [← sh.len]
  simp
theorem se_lstC (ha : SA T W X es r) : SE T W X (.List es pos) (mLstC r) := by
  obtain ⟨ta, pa, sa⟩ := ha
  refine ⟨_, pe_lst pa, fun g α σ H s h sh sl Q po => ?_⟩
  refine sa.run sh sl po fun xs ds α1 H1 h1 t1 sh1 sl1 r1 po1 => ?_
  split at po1
  · next hz =>
    refine ⟨by rw [r1.length]; exact hz, fun p hn => ?_⟩
    obtain ⟨s2, r2⟩ := newc_lst sh1 r1 hn
    exact po1 _ _ _ (Tr.newc hn) s2 r2
  · exact po1.elim
end

/-! ### subscripts -/
def ixOf (ds : List D) (i : Int) : Option D := atI ds i
def fIx : F2 := fun h x y => match y with
  | .int i => (match seqOf h x with | some ds => atI ds i | none => none)
  | _ => none
section
variable {T : Tab} {K : PySem.W.Frag} {W : WX} {α : List Addr} {H : Hp} {hp : CH}
theorem Reps.atI {vs : List V} {ds : List D} (r : Reps T K α H vs ds) {i : Int} {d : D} (e : atI ds i = some d) : ∃ v, L2.atI vs i = some v ∧ Rep T K α H v d := by
  unfold L2.atI at e ⊢
  rw [r.length]
  cases hx : ixN ds.length i with
  | none => rw [hx] at e; cases e
  | some j =>
    rw [hx] at e
    obtain ⟨v, e1, e2⟩ := r.get (show ds[j]? = some d from e)
    exact ⟨v, e1, e2⟩
theorem sr_ix : SndR T K (rIx K) fIx := fun g α H hp x y dx dy d sh rx ry e Q q => by
  unfold fIx at e
  split at e
  · next i =>
    cases ry
    split at e
    · next ds e1 =>
      obtain ⟨a, xs, rfl, hsq, r⟩ := rx.seqOf sh e1
      obtain ⟨v, e2, r2⟩ := r.atI e
      have fin := q v H (Tr.refl α H) sh r2
      rcases hsq with hs | hs
      · exact .inl ⟨a, xs, i, v, rfl, rfl, hs, e2, fin⟩
      · exact .inr (.inl ⟨a, xs, i, v, rfl, rfl, hs, e2, fin⟩)
    · cases e
  · cases e
end
section
variable {T : Tab} {W : WX} {X : Cx} {pos : Pos} {a b : Expr} {ma mb : ME}
theorem se_ixG {r : R2} {f : F2} (hr : IxR X r) (hs : SndR T X.K r f) (ha : SE T W X a ma) (hb : SE T W X b mb) (hp : PlainIx b := by exact fun _ _ => rfl) : SE T W X (.Subscript a b pos) (mBin f ma mb) := by
  obtain ⟨ta, pa, sa⟩ := ha
  obtain ⟨tb, pb, sb⟩ := hb
  exact ⟨_, pe_ix hr pa pb hp, snd_bin hs sa sb⟩
theorem se_ix (ha : SE T W X a ma) (hb : SE T W X b mb) (hp : PlainIx b := by exact fun _ _ => rfl) : SE T W X (.Subscript a b pos) (mBin fIx ma mb) := se_ixG ix_seq sr_ix ha hb hp
end
/-! slices -/
abbrev MO := SLS → CH → RE
/-- a part of a slice: its value, None for none written -/
def SO (T : Tab) (W : WX) (X : Cx) (e : Option Expr) (m : ME) : Prop := ∃ t, PO X e t ∧ ∀ g α σ H s h, SH (T.hide g) X.K α H h → SL (T.hide g) X.K α H σ s → ∀ Q : Option Int → Hp → Prop,
  PoE (T.hide g) X.K α σ H s (fun v H' => (v = .non ∧ Q none H') ∨ ∃ i, v = .int i ∧ Q (some i) H') W (m s h) → t σ H Q
def cutD (ds : List D) (lo hi : Option Int) : List D := (ds.drop (HT.sIx ds.length 0 lo)).take (HT.sIx ds.length ds.length hi - HT.sIx ds.length 0 lo)
def partOf : D → Option (Option Int)
  | .non => some none
  | .int i => some (some i)
  | _ => none
def fSl (h : CH) (x : D) (lo hi : Option Int) : Option D := match x with
  | .tup ds => some (.tup (cutD ds lo hi))
  | .scr ns => some (.lst (cutD (ns.map D.int) lo hi))
  | x => (lstOf h x).map fun ds => .lst (cutD ds lo hi)
def mSl (mx ml mu : ME) : ME := fun s h => (mx s h).bind fun x h1 => (ml s h1).bind fun l h2 => match partOf l with
  | none => .no
  | some lo => (mu s h2).bind fun u h3 => match partOf u with
    | none => .no
    | some hi => lift (fSl h3 x lo hi) h3
theorem slOr {X : Cx} {r r' : V → Option Int → Option Int → Hp → VK → Prop} (h : SlR X r) (h' : SlR X r') : SlR X (fun x l u H Q => r x l u H Q ∨ r' x l u H Q) := by
  unfold SlR at *
  intros
  rename_i q
  first
    | (rcases q with q | q
       · apply h <;> assumption
       · apply h' <;> assumption)
    | skip
section
variable {T : Tab} {W : WX} {X : Cx} {pos p2 : Pos} {a : Expr} {ma ml mu : ME}
theorem so_none : SO T W X none (mC .non) := ⟨_, po_none, fun g α σ H s h sh sl Q po => by
  rcases po _ H α (Tr.refl α H) sh .non with ⟨_, q⟩ | ⟨i, e, _⟩
  · exact q
  · cases e⟩
theorem so_some {e : Expr} (ha : SE T W X e ma) : SO T W X (some e) (fun s h => (ma s h).bind fun d h1 => match d with | .int i => .ok (.int i) h1 | _ => .no) := by
  obtain ⟨ta, pa, sa⟩ := ha
  refine ⟨_, po_some pa, fun g α σ H s h sh sl Q po => ?_⟩
  refine sa.run sh sl po fun x dx α1 H1 h1 t1 sh1 sl1 r1 po1 => ?_
  cases r1 with
  | int i =>
    rcases po1 _ H1 α1 (Tr.refl _ _) sh1 (.int i) with ⟨e, _⟩ | ⟨j, e, q⟩
    · cases e
    · cases e; exact ⟨i, rfl, q⟩
  | _ => exact po1.elim
end
section
variable {prog : Program} {w : World} {A : Around} {E : Value → Shared → Prop} {s : Shared}
theorem getW {t sl : Addr} {xs : Array Value} {vl vu : Value} {lo hi : Option Int} {Q : Value → Shared → Prop} (ht : IsTup s.heap t xs) (hs : s.heap.IsSliceOf sl vl vu .none) (pl : IsPart vl lo) (pu : IsPart vu hi)
    (hw : HT.sIx xs.size 0 lo = 0 ∧ HT.sIx xs.size xs.size hi = xs.size) (h : Q (.ref t) s) : wpAny (model prog w) A (getItem (.ref t) (.ref sl)) Q E s := by
  obtain ⟨os, o1, o2, o3⟩ := id hs
  have ty : s.TypeIs (.ref sl) "slice" := ⟨os, o1, o2⟩
  unfold getItem
  refine wpAny_holding ?_
  refine wpAny_bind (wpAny_sequenceKey ht.typeIs (by decide) ?_)
  refine wpAny_bind (wpAny_callSpecial?_slot (name := Str.ofString "__getitem__") ht.typeIs PyProof.Rows.slot_tuple_getitem
    (wpAny_call_entry PyProof.Rows.slot_tuple_getitem ht.typeIs entry_tuple_getitem ?en (args_tuple_getitem _ _)))
  show wpAny _ _ (Builtin.Tuple.tupleItemsOf (.ref t) >>= _) _ _ s
  refine wpAny_bind (tupleItemsOf_ ht ?_)
  refine wpAny_bind (wpAny_typeOf ty ?_)
  rw [if_pos (by decide)]
  refine wpAny_bind (HT.sliceApplied_gen hs pl pu ?_)
  show wpAny _ _ (if (((HT.sIx xs.size 0 lo : Nat) : Int) == 0 && (1 : Int) == 1 && (HT.sIx xs.size xs.size hi - HT.sIx xs.size 0 lo) == xs.size) = true then _ else _) _ _ s
  rw [hw.1, hw.2, if_pos (by simp)]
  unfold Builtin.Tuple.tupleIsExact
  refine wpAny_bind (wpAny_bind (wpAny_typeOf ht.typeIs (wpAny_pure ?_)))
  rw [if_pos (by decide)]
  refine wpAny_bind (wpAny_rule ?_)
  exact wpAny_pure ⟨_, rfl, wpAny_pure h⟩
end

/-- t[lo:hi] of a tuple: the whole is t itself -/
def rSlT2 (K : PySem.W.Frag) : V → Option Int → Option Int → Hp → VK → Prop := fun x lo hi H Q => ∃ a xs, x = .ref a ∧ SqT K H a xs ∧
  (cutV xs lo hi = xs → Q (.ref a) H) ∧ ∀ p, H p = none → Q (.ref p) (upd H p (.tup (cutV xs lo hi)))
theorem sl_tup2 {X : Cx} : SlR X (rSlT2 X.K) := by
  intro pins s σ H x v vl vu lo hi sl Q I rx hs pl pu h
  obtain ⟨a, xs, rfl, hx, q0, q⟩ := h
  by_cases hw : HT.sIx xs.length 0 lo = 0 ∧ HT.sIx xs.length xs.length hi = xs.length
  · have e : cutV xs lo hi = xs := by unfold cutV; rw [hw.1, hw.2]; simp
    cases rx
    obtain ⟨its, r, ht, hz⟩ := I.tuple hx
    have hl : its.toArray.size = xs.length := by rw [List.size_toArray]; exact r.length.symm
    refine ⟨"tuple", _, PyProof.Rows.slot_tuple_getitem.lookup, ht.typeIs, getW ht hs pl pu (by rw [hl]; exact hw) ⟨.ref a, H, I, rfl, q0 e⟩⟩
  · exact sl_tup pins s σ H _ v vl vu lo hi sl Q I rx hs pl pu ⟨a, xs, rfl, hx, hw, q⟩
section
variable {T : Tab} {K : PySem.W.Frag} {W : WX} {α : List Addr} {H : Hp} {hp : CH}
theorem Reps.cut {vs : List V} {ds : List D} (r : Reps T K α H vs ds) (lo hi : Option Int) : Reps T K α H (cutV vs lo hi) (cutD ds lo hi) := by
  unfold cutV cutD
  rw [r.length]
  exact (r.drop _).take _
theorem Reps.fn : ∀ {vs : List V} {ds es : List D}, Reps T K α H vs ds → vs.length = vs.length := fun _ => rfl
theorem cutD_length (ds : List D) (lo hi : Option Int) : (cutD ds lo hi).length ≤ ds.length := by
  unfold cutD
  rw [List.length_take, List.length_drop]
  omega
theorem cut_whole {vs : List V} {ds : List D} (r : Reps T K α H vs ds) {lo hi : Option Int} (e : cutV vs lo hi = vs) : Reps T K α H vs (cutD ds lo hi) := by
  have h := r.cut lo hi
  rw [e] at h
  exact h
end
section
variable {T : Tab} {W : WX} {X : Cx} {pos p2 : Pos} {a : Expr} {ma ml mu : ME} {lo hi : Option Expr}
theorem se_sl (ha : SE T W X a ma) (hl : SO T W X lo ml) (hu : SO T W X hi mu) : SE T W X (.Subscript a (.Slice lo hi none p2) pos) (mSl ma ml mu) := by
  obtain ⟨ta, pa, sa⟩ := ha
  obtain ⟨tl, pl, hl⟩ := hl
  obtain ⟨tu, pu, hu⟩ := hu
  refine ⟨_, pe_slice (slOr sl_list sl_tup2) pa pl pu, fun g α σ H s h sh sl Q po => ?_⟩
  refine sa.run sh sl po fun x dx α1 H1 h1 t1 sh1 sl1 r1 po1 => ?_
  refine hl g α1 σ H1 s h1 sh1 sl1 _ ?_
  generalize hm : ml s h1 = rl at po1
  cases rl with
  | no => exact po1
  | ex c fs h2 => exact po1
  | ok dl h2 =>
    intro vl H2 α2 t2 sh2 r2
    have po2 : PoE (T.hide g) X.K α2 σ H2 s Q W (match partOf dl with
      | none => .no
      | some lo => (mu s h2).bind fun u h3 => match partOf u with
        | none => .no
        | some hi => lift (fSl h3 dx lo hi) h3) := PoE.tr t2 po1
    have key : ∀ lo' : Option Int, partOf dl = some lo' → (fun (l : Option Int) H2 => tu σ H2 fun u H3 => (rSlL X.K x l u H3 Q ∨ rSlT2 X.K x l u H3 Q)) lo' H2 := by
      intro lo' el
      rw [el] at po2
      refine hu g α2 σ H2 s h2 sh2 (sl1.tr t2) _ ?_
      simp only at po2
      generalize hm2 : mu s h2 = ru at po2
      cases ru with
      | no => exact po2
      | ex c fs h3 => exact po2
      | ok du h3 =>
        intro vu H3 α3 t3 sh3 r3
        have po3 : PoE (T.hide g) X.K α3 σ H3 s Q W (match partOf du with
          | none => .no
          | some hi => lift (fSl h3 dx lo' hi) h3) := PoE.tr t3 po2
        have key2 : ∀ hi' : Option Int, partOf du = some hi' → (rSlL X.K x lo' hi' H3 Q ∨ rSlT2 X.K x lo' hi' H3 Q) := by
          intro hi' eu
          rw [eu] at po3
          simp only at po3
          unfold lift at po3
          split at po3
          · next d e =>
            unfold fSl at e
            have rx := (r1.tr t2).tr t3
            split at e
            · cases e
              cases rx with
              | tup h' rr =>
                refine .inr ⟨_, _, rfl, h'.sq, fun z => ?_, fun p hn => ?_⟩
                · exact po3 _ H3 α3 (Tr.refl _ _) sh3 (.tup h' (cut_whole rr z))
                · exact po3 _ _ α3 (Tr.new hn) (sh3.new hn) (Rep.newT sh3 (rr.cut _ _) hn)
            · cases e
              cases rx with
              | scr h' => exact .inl ⟨_, _, rfl, h'.sq, fun p hn => po3 _ _ α3 (Tr.new hn) (sh3.new hn) (Rep.newL sh3 (Reps.ints.cut _ _) hn)⟩
            · simp only [Option.map_eq_some_iff] at e
              obtain ⟨ds, e1, rfl⟩ := e
              obtain ⟨b, xs, rfl, hb, rr⟩ := rx.lstOf sh3 e1
              exact .inl ⟨b, xs, rfl, SqL.of hb, fun p hn => po3 _ _ α3 (Tr.new hn) (sh3.new hn) (Rep.newL sh3 (rr.cut _ _) hn)⟩
          · exact po3.elim
        cases r3 with
        | non => exact .inl ⟨rfl, key2 none rfl⟩
        | int i => exact .inr ⟨i, rfl, key2 (some i) rfl⟩
        | _ => exact po3.elim
    cases r2 with
    | non => exact .inl ⟨rfl, key none rfl⟩
    | int i => exact .inr ⟨i, rfl, key (some i) rfl⟩
    | _ => exact po2.elim
end
end Py

set_option Elab.async false
set_option linter.all false
set_option maxRecDepth 100000
namespace Py
open PySem PySem.Spec PyProof.Rows L2

/-! ### attributes -/
def fieldOf (h : CH) (cs : List Nat) (f : Str) : D → Option D
  | .obj c ns ds => if c ∈ cs then (ns.zip ds).lookup f else none
  | .cell n => match h[n]? with | some (.ob c fs) => if c ∈ cs then fs.lookup f else none | _ => none
  | _ => none
def mFld (cs : List Nat) (f : Str) (ma : ME) : ME := fun s h => (ma s h).bind fun x h1 => lift (fieldOf h1 cs f x) h1
section
variable {T : Tab} {K : PySem.W.Frag} {W : WX} {α : List Addr} {H : Hp} {hp : CH}
theorem look_rep (f : Str) : ∀ {xs : List (Str × V)} {fs : List (Str × D)} {d : D}, xs.map (·.1) = fs.map (·.1) → Reps T K α H (xs.map (·.2)) (fs.map (·.2)) → fs.lookup f = some d → ∃ v, xs.lookup f = some v ∧ Rep T K α H v d
  | [], [], _, _, _, e => by cases e
  | [], _ :: _, _, e, _, _ => by cases e
  | _ :: _, [], _, e, _, _ => by cases e
  | (k, x) :: xs, (k', y) :: fs, d, e, r, l => by
    simp only [List.map_cons, List.cons.injEq] at e
    obtain ⟨e1, e2⟩ := e
    subst e1
    cases r with
    | cons r1 r2 =>
      by_cases hk : f = k
      · subst hk
        have hb : (f == f) = true := by simp
        simp only [List.lookup, hb] at l ⊢
        cases l
        exact ⟨x, rfl, r1⟩
      · have hb : (f == k) = false := by simpa using hk
        simp only [List.lookup, hb] at l ⊢
        exact look_rep f e2 r2 l
theorem map_zip1 {β γ : Type} : ∀ {ns : List β} {xs : List γ}, ns.length = xs.length → (ns.zip xs).map (·.1) = ns
  | [], [], _ => rfl
  | [], _ :: _, h => by cases h
  | _ :: _, [], h => by cases h
  | n :: ns, x :: xs, h => by simp at h; simp [map_zip1 h]
theorem map_zip2 {β γ : Type} : ∀ {ns : List β} {xs : List γ}, ns.length = xs.length → (ns.zip xs).map (·.2) = xs
  | [], [], _ => rfl
  | [], _ :: _, h => by cases h
  | _ :: _, [], h => by cases h
  | n :: ns, x :: xs, h => by simp at h; simp [map_zip2 h]
theorem Rep.field {v : V} {x d : D} {cs : List Nat} {f : Str} (r : Rep T K α H v x) (sh : SH T K α H hp) (e : fieldOf hp cs f x = some d) : ∃ a c dx fs u, v = .ref a ∧ c ∈ cs ∧ H a = some (.ins (T.cls c) dx fs) ∧ fs.lookup f = some u ∧ Rep T K α H u d := by
  unfold fieldOf at e
  split at e
  · split at e
    · next hc =>
      cases r with
      | obj h n l rs =>
        have l' := rs.length
        obtain ⟨u, e1, e2⟩ := look_rep f (by rw [map_zip1 l, map_zip1 (by omega)]) (by rw [map_zip2 l, map_zip2 (by omega)]; exact rs) e
        exact ⟨_, _, _, _, u, rfl, hc, h, e1, e2⟩
    · cases e
  · split at e
    · next c fs e' =>
      split at e
      · next hc =>
        cases r with
        | cell h =>
          obtain ⟨dx, xs, h1, h2, h3⟩ := sh.get e' h
          obtain ⟨u, e1, e2⟩ := look_rep f h2 h3 e
          exact ⟨_, _, _, _, u, rfl, hc, h1, e1, e2⟩
      · cases e
    · cases e
  · cases e
end
/-- the classes told have the attribute plainly -/
def HasF (T : Tab) (K : PySem.W.Frag) (cs : List Nat) (f : Str) : Prop := ∀ c ∈ cs, Cls K (T.cls c) ∧ NoAttr K (T.cls c) f
section
variable {T : Tab} {W : WX} {X : Cx} {pos : Pos} {a : Expr} {ma : ME} {f : Str} {cs : List Nat}
theorem se_fld (hc : HasF T X.K cs f) (ha : SE T W X a ma) (hb : attributeBase a f X.env (eval a X.env) = eval a X.env := by rfl) : SE T W X (.Attribute a f pos) (mFld cs f ma) := by
  obtain ⟨ta, pa, sa⟩ := ha
  refine ⟨_, pe_fld pa hb, fun g α σ H s h sh sl Q po => ?_⟩
  refine sa.run sh sl po fun x dx α1 H1 h1 t1 sh1 sl1 r1 po1 => ?_
  unfold lift at po1
  split at po1
  · next d e =>
    obtain ⟨b, c, dd, fs, u, rfl, m, e1, e2, r2⟩ := r1.field sh1 e
    exact ⟨b, _, dd, fs, u, rfl, e1, (hc c m).1, (hc c m).2, e2, po1 u H1 α1 (Tr.refl _ _) sh1 r2⟩
  · exact po1.elim
end

/-! ### built-ins -/
abbrev FC := CH → List D → Option D
def SndC (T : Tab) (K : PySem.W.Frag) (r : List V → Hp → VK → Prop) (f : FC) : Prop := ∀ g α H hp vs ds d, SH (T.hide g) K α H hp → Reps (T.hide g) K α H vs ds → f hp ds = some d →
  ∀ Q : VK, (∀ v H', Tr α H α H' → SH (T.hide g) K α H' hp → Rep (T.hide g) K α H' v d → Q v H') → r vs H Q
def mCB (f : FC) (ma : MA) : ME := fun s h => (ma s h).bind fun ds h1 => lift (f h1 ds) h1
theorem callOr {X : Cx} {f : Value} {r r' : List V → Hp → VK → Prop} (a : CallR X f r) (b : CallR X f r') : CallR X f (fun xs H Q => r xs H Q ∨ r' xs H Q) := by
  intro pins s σ H xs us Q I rs h
  rcases h with h | h
  · exact a pins s σ H xs us Q I rs h
  · exact b pins s σ H xs us Q I rs h
def cOr (f g : FC) : FC := fun h ds => match f h ds with | some d => some d | none => g h ds
section
variable {T : Tab} {K : PySem.W.Frag} {W : WX}
theorem SndC.or {r r' : List V → Hp → VK → Prop} {f g : FC} (a : SndC T K r f) (b : SndC T K r' g) : SndC T K (fun xs H Q => r xs H Q ∨ r' xs H Q) (cOr f g) := fun g α H hp vs ds d sh rs e Q q => by
  unfold cOr at e
  split at e
  · next d' e' => cases e; exact .inl (a g α H hp vs ds _ sh rs e' Q q)
  · exact .inr (b g α H hp vs ds d sh rs e Q q)
theorem snd_cb {r : List V → Hp → VK → Prop} {f : FC} {ta : TA} {ma : MA} (hr : SndC T K r f) (ha : SndA T K W ta ma) : SndE T K W (tCB r ta) (mCB f ma) := fun g α σ H s h sh sl Q po => by
  refine ha.run sh sl po fun xs ds α1 H1 h1 t1 sh1 sl1 r1 po1 => ?_
  unfold lift at po1
  split at po1
  · next d e => exact hr g α1 H1 h1 xs ds d sh1 r1 e Q fun v H' t sh' r' => po1 v H' α1 t sh' r'
  · exact po1.elim
def cLen : FC := fun h ds => match ds with
  | [x] => (match x with | .str z => if z.length ≤ sizeLine then some (.int z.length) else none | x => (seqOf h x).map fun ds => .int ds.length)
  | _ => none
theorem Reps.one {α : List Addr} {H : Hp} {vs : List V} {d : D} (r : Reps T K α H vs [d]) : ∃ v, vs = [v] ∧ Rep T K α H v d := by
  cases r with
  | cons r1 r2 => cases r2; exact ⟨_, rfl, r1⟩
theorem Reps.two {α : List Addr} {H : Hp} {vs : List V} {d e : D} (r : Reps T K α H vs [d, e]) : ∃ v u, vs = [v, u] ∧ Rep T K α H v d ∧ Rep T K α H u e := by
  cases r with
  | cons r1 r2 =>
    obtain ⟨u, rfl, r3⟩ := r2.one
    exact ⟨_, u, rfl, r1, r3⟩
theorem sc_len : SndC T K (fun xs H Q => (∃ z, xs = [.str z] ∧ z.length ≤ sizeLine ∧ Q (.int z.length) H) ∨ (∃ p ys, xs = [.ref p] ∧ (SqL K H p ys ∨ SqT K H p ys) ∧ Q (.int ys.length) H)) cLen := fun g α H hp vs ds d sh rs e Q q => by
  unfold cLen at e
  split at e
  · obtain ⟨v, rfl, r⟩ := rs.one
    split at e
    · split at e
      · next hz => cases e; cases r; exact .inl ⟨_, rfl, hz, q _ H (Tr.refl _ _) sh (.int _)⟩
      · cases e
    · simp only [Option.map_eq_some_iff] at e
      obtain ⟨ds', e1, rfl⟩ := e
      obtain ⟨p, xs, rfl, h, r'⟩ := r.seqOf sh e1
      exact .inr ⟨p, xs, rfl, h, by rw [r'.length]; exact q _ H (Tr.refl _ _) sh (.int _)⟩
  · cases e
def cAbs : FC := fun _ ds => match ds with | [.int i] => some (.int (if i < 0 then -i else i)) | _ => none
theorem sc_abs : SndC T K (fun xs H Q => ∃ i, xs = [.int i] ∧ Q (.int (if i < 0 then -i else i)) H) cAbs := fun g α H hp vs ds d sh rs e Q q => by
  unfold cAbs at e
  split at e
  · obtain ⟨v, rfl, r⟩ := rs.one
    cases e; cases r
    exact ⟨_, rfl, q _ H (Tr.refl _ _) sh (.int _)⟩
  · cases e
def cInt : FC := fun _ ds => match ds with | [.int i] => some (.int i) | [.bl b] => some (.int (if b then 1 else 0)) | _ => none
theorem sc_int : SndC T K (fun xs H Q => (∃ i, xs = [.int i] ∧ Q (.int i) H) ∨ ∃ k, xs = [.bl k] ∧ Q (.int (if k then 1 else 0)) H) cInt := fun g α H hp vs ds d sh rs e Q q => by
  unfold cInt at e
  split at e
  · obtain ⟨v, rfl, r⟩ := rs.one
    cases e; cases r
    exact .inl ⟨_, rfl, q _ H (Tr.refl _ _) sh (.int _)⟩
  · obtain ⟨v, rfl, r⟩ := rs.one
    cases e; cases r
    exact .inr ⟨_, rfl, q _ H (Tr.refl _ _) sh (.int _)⟩
  · cases e
def intsOf : List D → Option (List Int)
  | [] => some []
  | .int i :: r => (intsOf r).map (i :: ·)
  | _ => none
theorem intsOf_eq : ∀ {ds : List D} {ns : List Int}, intsOf ds = some ns → ds = ns.map D.int
  | [], _, e => by cases e; rfl
  | .int i :: r, ns, e => by
    simp only [intsOf, Option.map_eq_some_iff] at e
    obtain ⟨ms, e1, rfl⟩ := e
    rw [intsOf_eq e1]; rfl
  | .non :: _, _, e | .bl _ :: _, _, e | .str _ :: _, _, e | .tup _ :: _, _, e | .lst _ :: _, _, e | .obj _ _ _ :: _, _, e | .cell _ :: _, _, e | .fn _ :: _, _, e | .scr _ :: _, _, e => by cases e
theorem intsOf_map : ∀ ns : List Int, intsOf (ns.map D.int) = some ns
  | [] => rfl
  | n :: ns => by simp [intsOf, intsOf_map ns]
def boolsOf : List D → Option (List Bool)
  | [] => some []
  | .bl i :: r => (boolsOf r).map (i :: ·)
  | _ => none
theorem boolsOf_eq : ∀ {ds : List D} {ns : List Bool}, boolsOf ds = some ns → ds = ns.map D.bl
  | [], _, e => by cases e; rfl
  | .bl i :: r, ns, e => by
    simp only [boolsOf, Option.map_eq_some_iff] at e
    obtain ⟨ms, e1, rfl⟩ := e
    rw [boolsOf_eq e1]; rfl
  | .non :: _, _, e | .int _ :: _, _, e | .str _ :: _, _, e | .tup _ :: _, _, e | .lst _ :: _, _, e | .obj _ _ _ :: _, _, e | .cell _ :: _, _, e | .fn _ :: _, _, e | .scr _ :: _, _, e => by cases e
theorem boolsOf_map : ∀ ns : List Bool, boolsOf (ns.map D.bl) = some ns
  | [] => rfl
  | n :: ns => by simp [boolsOf, boolsOf_map ns]
/-- a list that is walked by a built-in -/
def lsOf (h : CH) : D → Option (List D)
  | .scr ns => some (ns.map D.int)
  | d => lstOf h d
theorem Rep.lsOf {α : List Addr} {H : Hp} {hp : CH} {v : V} {d : D} {ds : List D} (r : Rep T K α H v d) (sh : SH T K α H hp) (e : lsOf hp d = some ds) : ∃ a xs, v = .ref a ∧ SqL K H a xs ∧ Reps T K α H xs ds := by
  unfold Py.lsOf at e
  split at e
  · cases e
    cases r with
    | scr h => exact ⟨_, _, rfl, h.sq, Reps.ints⟩
  · obtain ⟨a, xs, e1, e2, e3⟩ := r.lstOf sh e
    exact ⟨a, xs, e1, SqL.of e2, e3⟩
def cSum : FC := fun h ds => match ds with | [x] => (match lsOf h x with | some l => (intsOf l).map fun ns => .int ns.sum | none => none) | _ => none
theorem sc_sum : SndC T K (rSum K) cSum := fun g α H hp vs ds d sh rs e Q q => by
  unfold cSum at e
  split at e
  · obtain ⟨v, rfl, r⟩ := rs.one
    split at e
    · next l e1 =>
      simp only [Option.map_eq_some_iff] at e
      obtain ⟨ns, e2, rfl⟩ := e
      obtain ⟨a, xs, rfl, h, r'⟩ := r.lsOf sh e1
      rw [intsOf_eq e2] at r'
      rw [r'.of_ints] at h
      exact ⟨a, ns, rfl, h, q _ H (Tr.refl _ _) sh (.int _)⟩
    · cases e
  · cases e
def cAll : FC := fun h ds => match ds with | [x] => (match lsOf h x with | some l => (match boolsOf l with | some ns => some (.bl (ns.all id)) | none => (intsOf l).map fun ns => .bl (ns.all (· != 0))) | none => none) | _ => none
def cAny : FC := fun h ds => match ds with | [x] => (match lsOf h x with | some l => (match boolsOf l with | some ns => some (.bl (ns.any id)) | none => (intsOf l).map fun ns => .bl (ns.any (· != 0))) | none => none) | _ => none
def rAllI (K : PySem.W.Frag) : List V → Hp → VK → Prop := fun vs H Q => ∃ (a : Addr) (ns : List Int), vs = [V.ref a] ∧ SqL K H a (ns.map V.int) ∧ Q (.bl (ns.all (· != 0))) H
def rAnyI (K : PySem.W.Frag) : List V → Hp → VK → Prop := fun vs H Q => ∃ (a : Addr) (ns : List Int), vs = [V.ref a] ∧ SqL K H a (ns.map V.int) ∧ Q (.bl (ns.any (· != 0))) H
theorem sc_all : SndC T K (fun xs H Q => rAll K xs H Q ∨ rAllI K xs H Q) cAll := fun g α H hp vs ds d sh rs e Q q => by
  unfold cAll at e
  split at e
  · obtain ⟨v, rfl, r⟩ := rs.one
    split at e
    · next l e1 =>
      obtain ⟨a, xs, rfl, h, r'⟩ := r.lsOf sh e1
      split at e
      · next ns e2 =>
        cases e
        rw [boolsOf_eq e2] at r'
        rw [r'.of_bools] at h
        exact .inl ⟨a, ns, rfl, h, q _ H (Tr.refl _ _) sh (.bl _)⟩
      · simp only [Option.map_eq_some_iff] at e
        obtain ⟨ns, e2, rfl⟩ := e
        rw [intsOf_eq e2] at r'
        rw [r'.of_ints] at h
        exact .inr ⟨a, ns, rfl, h, q _ H (Tr.refl _ _) sh (.bl _)⟩
    · cases e
  · cases e
theorem sc_any : SndC T K (fun xs H Q => rAny K xs H Q ∨ rAnyI K xs H Q) cAny := fun g α H hp vs ds d sh rs e Q q => by
  unfold cAny at e
  split at e
  · obtain ⟨v, rfl, r⟩ := rs.one
    split at e
    · next l e1 =>
      obtain ⟨a, xs, rfl, h, r'⟩ := r.lsOf sh e1
      split at e
      · next ns e2 =>
        cases e
        rw [boolsOf_eq e2] at r'
        rw [r'.of_bools] at h
        exact .inl ⟨a, ns, rfl, h, q _ H (Tr.refl _ _) sh (.bl _)⟩
      · simp only [Option.map_eq_some_iff] at e
        obtain ⟨ns, e2, rfl⟩ := e
        rw [intsOf_eq e2] at r'
        rw [r'.of_ints] at h
        exact .inr ⟨a, ns, rfl, h, q _ H (Tr.refl _ _) sh (.bl _)⟩
    · cases e
  · cases e
theorem vals_ints : ∀ {ns : List Int} {us : List Value}, Vals (ns.map V.int) us → us.length = ns.length ∧ ∀ (i : Nat) (v : Value), us[i]? = some v → ∃ t, v = Value.int (ns.getD i 0) t
  | [], _, .nil => ⟨rfl, fun i v e => by simp at e⟩
  | n :: ns, _, .cons r rs => by
    obtain ⟨h1, h2⟩ := vals_ints rs
    refine ⟨by simp [h1], fun i v e => ?_⟩
    cases i with
    | zero =>
      simp at e
      subst e
      obtain ⟨t, e2⟩ := r
      exact ⟨t, e2⟩
    | succ i => exact h2 i v (by simpa using e)
theorem allR : ∀ ns : List Int, (List.range ns.length).all (fun i => ns.getD i 0 != 0) = ns.all (· != 0)
  | [] => rfl
  | n :: ns => by
    rw [List.length_cons, List.range_succ_eq_map]
    simp only [List.all_cons, List.all_map]
    rw [← allR ns]
    rfl
theorem anyR : ∀ ns : List Int, (List.range ns.length).any (fun i => ns.getD i 0 != 0) = ns.any (· != 0)
  | [] => rfl
  | n :: ns => by
    rw [List.length_cons, List.range_succ_eq_map]
    simp only [List.any_cons, List.any_map]
    rw [← anyR ns]
    rfl
theorem cr_allI {X : Cx} (hc : X.calm = true) : CallR X (.builtin "all") (rAllI X.K) := by
  intro pins s σ H vs us Q I r h
  obtain ⟨a, ns, rfl, hs, q⟩ := h
  obtain ⟨its, rv, hl, _⟩ := I.list hs
  obtain ⟨hn, hv⟩ := vals_ints rv
  rw [Vals.ref1 r]
  refine call_all_walk (iter_any hl.isList fun s₂ e2 st hne => ?_)
  subst e2
  have tr : TruthOf X.prog X.w X.A.in1 (fun i v => its.toArray[i]? = some v) (fun i => ns.getD i 0 != 0) := fun i v s Q E e hq => by
    obtain ⟨t, rfl⟩ := hv i v (by simpa using e)
    exact PySem.P.truthy_int hq
  refine ⟨_, _, _, _, _, _, _, rfl, Walks.list (A := X.A.in1) (I.ok.hd hc) _ a hne its.toArray, st, tr, fun h' tk hk => ?_⟩
  refine ⟨.bl (ns.all (· != 0)), H, I.kept fun b o eo => hk b o (fun m => ?_) (Heap.get?_push_of_some _ eo), ?_, q⟩
  · have : b = s.heap.objs.size := by simpa using m
    rw [this] at eo
    exact absurd (Heap.lt_size eo) (Nat.lt_irrefl _)
  · show Value.bool _ = Value.bool _
    rw [← allR, ← hn, List.size_toArray]
theorem cr_anyI {X : Cx} (hc : X.calm = true) : CallR X (.builtin "any") (rAnyI X.K) := by
  intro pins s σ H vs us Q I r h
  obtain ⟨a, ns, rfl, hs, q⟩ := h
  obtain ⟨its, rv, hl, _⟩ := I.list hs
  obtain ⟨hn, hv⟩ := vals_ints rv
  rw [Vals.ref1 r]
  refine call_any_walk (iter_any hl.isList fun s₂ e2 st hne => ?_)
  subst e2
  have tr : TruthOf X.prog X.w X.A.in1 (fun i v => its.toArray[i]? = some v) (fun i => ns.getD i 0 != 0) := fun i v s Q E e hq => by
    obtain ⟨t, rfl⟩ := hv i v (by simpa using e)
    exact PySem.P.truthy_int hq
  refine ⟨_, _, _, _, _, _, _, rfl, Walks.list (A := X.A.in1) (I.ok.hd hc) _ a hne its.toArray, st, tr, fun h' tk hk => ?_⟩
  refine ⟨.bl (ns.any (· != 0)), H, I.kept fun b o eo => hk b o (fun m => ?_) (Heap.get?_push_of_some _ eo), ?_, q⟩
  · have : b = s.heap.objs.size := by simpa using m
    rw [this] at eo
    exact absurd (Heap.lt_size eo) (Nat.lt_irrefl _)
  · show Value.bool _ = Value.bool _
    rw [← anyR, ← hn, List.size_toArray]
def cTuple : FC := fun h ds => match ds with | [.tup l] => some (.tup l) | [x] => (lsOf h x).map .tup | _ => none
theorem sc_tuple : SndC T K (fun xs H Q => ∃ p ys, xs = [.ref p] ∧ ((SqL K H p ys ∧ ∀ l, H l = none → Q (.ref l) (upd H l (.tup ys))) ∨ (SqT K H p ys ∧ Q (.ref p) H))) cTuple := fun g α H hp vs ds d sh rs e Q q => by
  unfold cTuple at e
  split at e
  · obtain ⟨v, rfl, r⟩ := rs.one
    cases e
    cases r with
    | tup h rr => exact ⟨_, _, rfl, .inr ⟨h.sq, q _ H (Tr.refl _ _) sh (.tup h rr)⟩⟩
  · obtain ⟨v, rfl, r⟩ := rs.one
    simp only [Option.map_eq_some_iff] at e
    obtain ⟨l, e1, rfl⟩ := e
    obtain ⟨a, xs, rfl, h, r'⟩ := r.lsOf sh e1
    exact ⟨a, xs, rfl, .inl ⟨h, fun p hn => q _ _ (Tr.new hn) (sh.new hn) (Rep.newT sh r' hn)⟩⟩
  · cases e
def cList : FC := fun h ds => match ds with | [x] => (seqOf h x).map .lst | _ => none
theorem sc_list : SndC T K (fun xs H Q => ∃ p ys, xs = [.ref p] ∧ (SqL K H p ys ∨ SqT K H p ys) ∧ ∀ l, H l = none → Q (.ref l) (upd H l (.lst ys))) cList := fun g α H hp vs ds d sh rs e Q q => by
  unfold cList at e
  split at e
  · obtain ⟨v, rfl, r⟩ := rs.one
    simp only [Option.map_eq_some_iff] at e
    obtain ⟨l, e1, rfl⟩ := e
    obtain ⟨a, xs, rfl, h, r'⟩ := r.seqOf sh e1
    exact ⟨a, xs, rfl, h, fun p hn => q _ _ (Tr.new hn) (sh.new hn) (Rep.newL sh r' hn)⟩
  · cases e
end
/-- list(x) as a thing that changes -/
def mListC (ma : MA) : ME := fun s h => (ma s h).bind fun ds h1 => match ds with | [x] => (match seqOf h1 x with | some l => .ok (.cell h1.length) (h1 ++ [.lst l]) | none => .no) | _ => .no
section
variable {T : Tab} {W : WX} {X : Cx} {p pos : Pos} {e : Expr} {es : List Expr} {ma : MA}
theorem se_cb {x : Str} {id : String} {r : List V → Hp → VK → Prop} {f : FC} (hc : CallR X (.builtin id) r) (hs : SndC T X.K r f) (hm : X.mg x = none) (ha : SA T W X (e :: es) ma) (hg : Gl X x := by rfl) (hv : bootBuiltins x = some (.builtin id) := by decide +kernel)
    (hn : x ≠ "__name__" := by decide) (hdb : (x == ("__debug__" : Str)) = false := by decide) (he : starEach (e :: es) X.env = (false, eval e X.env) :: starEach es X.env := by rfl)
    (hpl : (backTo pos (starEach es X.env)).any (·.1) = false := by rfl) : SE T W X (.Call (.Name x p) (e :: es) [] pos) (mCB f ma) := by
  obtain ⟨ta, pa, sa⟩ := ha
  exact ⟨_, pe_callB hc hg hm hv pa hn hdb he hpl, snd_cb hs sa⟩
theorem se_cty {x : Str} {id : String} {r : List V → Hp → VK → Prop} {f : FC} (hc : CallR X (.type id) r) (hs : SndC T X.K r f) (hm : X.mg x = none) (ha : SA T W X (e :: es) ma) (hg : Gl X x := by rfl) (hv : bootBuiltins x = some (.type id) := by decide +kernel)
    (hn : x ≠ "__name__" := by decide) (hdb : (x == ("__debug__" : Str)) = false := by decide) (he : starEach (e :: es) X.env = (false, eval e X.env) :: starEach es X.env := by rfl)
    (hpl : (backTo pos (starEach es X.env)).any (·.1) = false := by rfl) : SE T W X (.Call (.Name x p) (e :: es) [] pos) (mCB f ma) := by
  obtain ⟨ta, pa, sa⟩ := ha
  exact ⟨_, pe_callTy hc hg hm hv pa hn hdb he hpl, snd_cb hs sa⟩
theorem se_len (hm : X.mg "len" = none) (ha : SA T W X [e] ma) (hg : Gl X "len" := by rfl) (he : starEach [e] X.env = (false, eval e X.env) :: starEach [] X.env := by rfl) (hpl : (backTo pos (starEach [] X.env)).any (·.1) = false := by rfl) :
    SE T W X (.Call (.Name "len" p) [e] [] pos) (mCB cLen ma) := se_cb (callOr call_len_str call_len_seq) sc_len hm ha hg PySem.boot_len (by decide) (by decide) he hpl
theorem se_abs (hm : X.mg "abs" = none) (ha : SA T W X [e] ma) (hg : Gl X "abs" := by rfl) (he : starEach [e] X.env = (false, eval e X.env) :: starEach [] X.env := by rfl) (hpl : (backTo pos (starEach [] X.env)).any (·.1) = false := by rfl) :
    SE T W X (.Call (.Name "abs" p) [e] [] pos) (mCB cAbs ma) := se_cb call_abs sc_abs hm ha hg (by decide +kernel) (by decide) (by decide) he hpl
theorem se_sum (hm : X.mg "sum" = none) (ha : SA T W X [e] ma) (hc : X.calm = true := by rfl) (hg : Gl X "sum" := by rfl) (he : starEach [e] X.env = (false, eval e X.env) :: starEach [] X.env := by rfl) (hpl : (backTo pos (starEach [] X.env)).any (·.1) = false := by rfl) :
    SE T W X (.Call (.Name "sum" p) [e] [] pos) (mCB cSum ma) := se_cb (cr_sum hc) sc_sum hm ha hg (by decide +kernel) (by decide) (by decide) he hpl
theorem se_all (hm : X.mg "all" = none) (ha : SA T W X [e] ma) (hc : X.calm = true := by rfl) (hg : Gl X "all" := by rfl) (he : starEach [e] X.env = (false, eval e X.env) :: starEach [] X.env := by rfl) (hpl : (backTo pos (starEach [] X.env)).any (·.1) = false := by rfl) :
    SE T W X (.Call (.Name "all" p) [e] [] pos) (mCB cAll ma) := se_cb (callOr (cr_all hc) (cr_allI hc)) sc_all hm ha hg (by decide +kernel) (by decide) (by decide) he hpl
theorem se_any (hm : X.mg "any" = none) (ha : SA T W X [e] ma) (hc : X.calm = true := by rfl) (hg : Gl X "any" := by rfl) (he : starEach [e] X.env = (false, eval e X.env) :: starEach [] X.env := by rfl) (hpl : (backTo pos (starEach [] X.env)).any (·.1) = false := by rfl) :
    SE T W X (.Call (.Name "any" p) [e] [] pos) (mCB cAny ma) := se_cb (callOr (cr_any hc) (cr_anyI hc)) sc_any hm ha hg (by decide +kernel) (by decide) (by decide) he hpl
theorem se_intc (hm : X.mg "int" = none) (ha : SA T W X [e] ma) (hg : Gl X "int" := by rfl) (he : starEach [e] X.env = (false, eval e X.env) :: starEach [] X.env := by rfl) (hpl : (backTo pos (starEach [] X.env)).any (·.1) = false := by rfl) :
    SE T W X (.Call (.Name "int" p) [e] [] pos) (mCB cInt ma) := se_cty call_int1 sc_int hm ha hg PySem.Pv.boot_int (by decide) (by decide) he hpl
theorem se_tuple (hm : X.mg "tuple" = none) (ha : SA T W X [e] ma) (hg : Gl X "tuple" := by rfl) (he : starEach [e] X.env = (false, eval e X.env) :: starEach [] X.env := by rfl) (hpl : (backTo pos (starEach [] X.env)).any (·.1) = false := by rfl) :
    SE T W X (.Call (.Name "tuple" p) [e] [] pos) (mCB cTuple ma) := se_cty call_tuple_of sc_tuple hm ha hg (by decide +kernel) (by decide) (by decide) he hpl
theorem se_list (hm : X.mg "list" = none) (ha : SA T W X [e] ma) (hg : Gl X "list" := by rfl) (he : starEach [e] X.env = (false, eval e X.env) :: starEach [] X.env := by rfl) (hpl : (backTo pos (starEach [] X.env)).any (·.1) = false := by rfl) :
    SE T W X (.Call (.Name "list" p) [e] [] pos) (mCB cList ma) := se_cty call_list_of sc_list hm ha hg (by decide +kernel) (by decide) (by decide) he hpl
theorem se_listC (hm : X.mg "list" = none) (ha : SA T W X [e] ma) (hg : Gl X "list" := by rfl) (he : starEach [e] X.env = (false, eval e X.env) :: starEach [] X.env := by rfl) (hpl : (backTo pos (starEach [] X.env)).any (·.1) = false := by rfl) :
    SE T W X (.Call (.Name "list" p) [e] [] pos) (mListC ma) := by
  obtain ⟨ta, pa, sa⟩ := ha
  refine ⟨_, pe_callTy call_list_of hg hm (by decide +kernel) pa (by decide) (by decide) he hpl, fun g α σ H s h sh sl Q po => ?_⟩
  refine sa.run sh sl po fun xs ds α1 H1 h1 t1 sh1 sl1 r1 po1 => ?_
  split at po1
  · obtain ⟨v, rfl, r⟩ := r1.one
    split at po1
    · next l e1 =>
      obtain ⟨a, xs, rfl, h, r'⟩ := r.seqOf sh1 e1
      refine ⟨a, xs, rfl, h, fun q hn => ?_⟩
      obtain ⟨s2, r2⟩ := newc_lst sh1 r' hn
      exact po1 _ _ _ (Tr.newc hn) s2 r2
    · exact po1.elim
  · exact po1.elim
end
end Py

set_option Elab.async false
set_option linter.all false
set_option maxRecDepth 100000
namespace Py
open PySem PySem.Spec PyProof.Rows L2

/-! ### defs, at callers of which no own repr is under way -/
structure Rm (k : Nat) (A : Around) : Prop where
  rm : Room k A
  gd : A.guards = some []
theorem Rm.mono {j k : Nat} {A : Around} (r : Rm k A) (h : j ≤ k) : Rm j A := ⟨r.rm.mono h, r.gd⟩
theorem Rm.deeper {k : Nat} {A : Around} (r : Rm (k + 1) A) (env : Env) : Rm k (A.deeper env) := ⟨r.rm.deeper env, r.gd⟩
theorem Rm.make {k : Nat} {A : Around} (r : Rm (k + 1) A) (C : Addr) (l : List Value) (kw : List (Str × Value)) : Rm k (A.under (.builtin "type.__call__" ⟨.ref C :: l, kw⟩)) := by
  refine ⟨r.rm.make C l kw, ?_⟩
  have e : (Code.builtin "type.__call__" ⟨.ref C :: l, kw⟩).guards = [] := by
    show (if guardIds.contains "type.__call__" then _ else _) = _
    rw [if_neg (by decide +kernel)]
  show pushGuards (Code.builtin "type.__call__" ⟨.ref C :: l, kw⟩).guards A.guards = some []
  rw [e]
  exact r.gd
/-- a def keeps its promise at such callers -/
structure FnG (P : Program) (w : World) (K : PySem.W.Frag) (mg : Str → Option Value) (base : Heap) (CX : CXT) (k : Nat) (f : Addr) (fd : FuncData) (ps : List Str) (sp : Sp) : Prop where
  len : ∀ vs H Q E, sp vs H Q E → vs.length = ps.length
  run : ∀ (A : Around) (fr : List Env) (s : Shared) (H : Hp) (ag : Args) (us : List Value) (vs : List V) (Q : VK) (E : XK), Rm k A → Env0 P w K mg base A fr s H → BindsTo s fd ag (ps.zip us) → Vals vs us → sp vs H Q E →
    codeAny (model P w) A (.call (.ref f) ag) (CR CX fr P w H s Q E) s
theorem FnG.mono {P : Program} {w : World} {K : PySem.W.Frag} {mg : Str → Option Value} {base : Heap} {CX : CXT} {j k : Nat} {f : Addr} {fd : FuncData} {ps : List Str} {sp : Sp} (F : FnG P w K mg base CX j f fd ps sp) (le : j ≤ k) : FnG P w K mg base CX k f fd ps sp :=
  ⟨F.len, fun A fr s H ag us vs Q E rm => F.run A fr s H ag us vs Q E (rm.mono le)⟩
theorem fnG_of {CX : CXT} {P : Program} {w : World} {K : PySem.W.Frag} {mg : Str → Option Value} {base : Heap} {k : Nat} {f : Addr} {nm qual : Str} {pr : Arguments} {bd : List Stmt} {sc : Scope} {dV kV doc pm cdv ct oc : Value} {an od : Option Addr}
    {sl : Array (Option Value)} {N ps : List Str} {sp : Sp} (at_ : K.lookup f = some ⟨oc, od, .func (PySem.W.fnOf nm qual pr bd sc dV kV doc pm an cdv ct), sl⟩) (cd : PySem.W.codeIn K cdv qual = true) (S : FnScope N ps sc)
    (ln : ∀ vs H Q E, sp vs H Q E → vs.length = ps.length)
    (b : ∀ (A : Around) (fr : List Env) (s : Shared) (H : Hp) (vs : List V) (Q : VK) (E : XK), Rm k (A.deeper (envOfC qual sc s.heap.objs.size f cdv)) → sp vs H Q E →
      ∃ t, PSs (cxOf CX P w K mg base N qual sc f cdv A fr s H E) bd t ∧ t { nx := fun _ J => Q .non J, rt := Q } (start N vs) H) : FnG P w K mg base CX (k + 1) f (PySem.W.fnOf nm qual pr bd sc dV kV doc pm an cdv ct) ps sp where
  len := ln
  run := by
    intro A fr s H ag us vs Q E rm ev bi rv pr
    have nu := ln _ _ _ _ pr
    have inn : K.In s.heap := ev.mod.kin.keeps fun c o z => (ev.bs c o z).1
    have nol : s.heap.NoLimit := ev.mod.nolimit.keeps fun c o z => (ev.bs c o z).1
    have kinds : ∀ y ∈ ps.zip us, sc.names.lookup y.1 = some .local ∨ (sc.names.lookup y.1 = some .cell ∧ ((cellsFrom (s.heap.objs.size + 1) sc.names []).lookup y.1).isSome = true) := by
      intro y my
      obtain ⟨n, v⟩ := y
      cases S.par n (List.of_mem_zip my).1 with
      | inl z => exact .inl z
      | inr z => exact .inr ⟨z, PySem.W.cellsFrom_some _ _ _ (.inl z)⟩
    refine codeAny_call_function rm.rm.depth (inn _ _ at_) rfl S.co S.gen rfl (PySem.W.codeRec_of inn cd) (bi _ _ _ _ (wpAny_newFunctionEnv_cells S.kind kinds fun env he s1 x => ?_))
    cases he
    refine ⟨nol.keeps x.toInCall.keep, codeAny_func ?_⟩
    obtain ⟨t, p1, p2⟩ := b A fr s H vs Q E (rm.deeper _) pr
    have I := inv_start (CX := CX) (qual := qual) (E := E) S rm.rm.hd ev nu rv x
    refine wpAny_mono (p1.run [] s1 (start N vs) H _ I p2) (fun fl s' hs => ?_) fun _ _ z => z
    cases fl with
    | ret u =>
      obtain ⟨v, σ', J, I', r', q'⟩ := hs
      exact ⟨v, J, I'.os, I'.bare, I'.base, I'.hok, r', q'⟩
    | next =>
      obtain ⟨σ', J, I', q'⟩ := hs
      exact ⟨V.non, J, I'.os, I'.bare, I'.base, I'.hok, rfl, q'⟩
    | brk => obtain ⟨_, _, _, z⟩ := hs; cases z
    | cont => obtain ⟨_, _, _, z⟩ := hs; cases z
section
variable {X : Cx} {CX : CXT} {k : Nat} {f C : Addr} {fd : FuncData} {ps ks : List Str} {sp : Sp} {dvs : List V} {ds : List Value} {x : Str} {p pos : Pos} {e : Expr} {es : List Expr} {t tk : TA} {kws : List Keyword}
theorem runG {pins : List (Addr × Obj)} {σ : L2.St} {H : Hp} {s : Shared} {Q : VK} {us : List Value} {vs : List V} {E : L2.St → XK} (F : FnG X.prog X.w X.K X.mg X.base CX k f fd ps sp) (rm : Rm k X.A) (bi : Binds X.K fd ps ds) (dv : Vals dvs ds) (pa : PassesAt CX X σ (E σ))
    (I : Inv X pins σ H s) (rv : Vals vs us) (h : sp (vs ++ dvs) H Q (E σ)) : wpAny (model X.prog X.w) X.A (call (.ref f) us) (EP X pins σ Q) X.xe s := by
  have all := rv.append dv
  have nu : (us ++ ds).length = ps.length := all.length.symm.trans (F.len _ _ _ _ h)
  refine wpAny_call (codeAny_mono (F.run X.A X.stack s H ⟨us, []⟩ _ _ Q (E σ) rm I.env0 (bi s us I.kIn nu) all h) fun r s' z => ?_)
  match r, z with
  | .error e, z => exact pa pins H s e s' I z
  | .ok (.ret u), z => exact I.after z
theorem pe_callG {E : L2.St → XK} (F : FnG X.prog X.w X.K X.mg X.base CX k f fd ps sp) (rm : Rm k X.A) (hg : Gl X x) (hm : X.mg x = some (.ref f)) (kp : PySem.W.keepIn X.K (.ref f) = true) (bi : Binds X.K fd ps ds) (dv : Vals dvs ds) (pa : ∀ σ, PassesAt CX X σ (E σ))
    (args : PA X (e :: es) t) (hdb : (x == ("__debug__" : Str)) = false := by decide) (st : starEach (e :: es) X.env = (false, eval e X.env) :: starEach es X.env := by rfl) (pl : (backTo pos (starEach es X.env)).any (·.1) = false := by rfl) :
    PE X (.Call (.Name x p) (e :: es) [] pos) (tCallSD sp dvs E t) where
  run pins s σ H Q I h := wpAny_Call_Name_kw (ld_glob I hg hm (PySem.W.callWith_K (h₀ := X.base) I.ok.mod.kin kp (thn (args.run pos pins s σ H _ I h) fun us s1 ⟨vs, J, I1, r, q⟩ => ⟨I1.kIn, runG F rm bi dv (pa σ) I1 r q⟩) st pl) hdb)
theorem pe_callG0 {E : L2.St → XK} (F : FnG X.prog X.w X.K X.mg X.base CX k f fd ps sp) (rm : Rm k X.A) (hg : Gl X x) (hm : X.mg x = some (.ref f)) (kp : PySem.W.keepIn X.K (.ref f) = true) (bi : Binds X.K fd ps ds) (dv : Vals dvs ds) (pa : ∀ σ, PassesAt CX X σ (E σ))
    (hdb : (x == ("__debug__" : Str)) = false := by decide) : PE X (.Call (.Name x p) [] [] pos) (tCallSD sp dvs E tNil) where
  run pins s σ H Q I h := wpAny_Call_Name_kw (ld_glob I hg hm (PySem.W.callWith_K0 I.kIn kp (runG (us := []) (vs := []) F rm bi dv (pa σ) I .nil h)) hdb)
/-- how keywords alone bind: g puts their values in the parameters' order -/
structure KB0 (K : PySem.W.Frag) (fd : FuncData) (ps ks : List Str) (g : List Value → List Value) (gV : List V → List V) : Prop where
  to : ∀ (s : Shared) (ws : List Value), K.In s.heap → (g ws).length = ps.length → BindsTo s fd ⟨[], ks.zip ws⟩ (ps.zip (g ws))
  rel : ∀ {zs : List V} {ws : List Value}, Vals zs ws → Vals (gV zs) (g ws)
/-- f(k = v, ..) -/
theorem pe_callGK {E : L2.St → XK} {g : List Value → List Value} {gV : List V → List V} (F : FnG X.prog X.w X.K X.mg X.base CX k f fd ps sp) (rm : Rm k X.A) (hg : Gl X x) (hm : X.mg x = some (.ref f)) (kp : PySem.W.keepIn X.K (.ref f) = true)
    (bi : KB0 X.K fd ps ks g gV) (pa : ∀ σ, PassesAt CX X σ (E σ)) (ags : PK X kws tk) (hall : (backToKw pos (keywordEach kws X.env)).all (·.1.isSome) = true := by rfl) (hks : (backToKw pos (keywordEach kws X.env)).filterMap (·.1) = ks := by rfl)
    (hdb : (x == ("__debug__" : Str)) = false := by decide) (pl : ((backTo pos (starEach [] X.env)).any (·.1) || (backToKw pos (keywordEach kws X.env)).any (·.1.isNone)) = false := by rfl) :
    PE X (.Call (.Name x p) [] kws pos) (fun σ H Q => tk σ H fun zs J => sp (gV zs) J Q (E σ)) where
  run pins s σ H Q I h := by
    refine wpAny_Call_Name_kw (ld_glob I hg hm ?_ hdb)
    refine PySem.W.callWith_KW0 (h₀ := X.base) I.ok.mod.kin kp hall (thn (ags.run pos pins s σ H _ I h) fun ws s2 ⟨zs, J, I2, rz, q⟩ => ⟨I2.kIn, ?_⟩) pl
    rw [hks]
    have all := bi.rel rz
    have nu : (g ws).length = ps.length := all.length.symm.trans (F.len _ _ _ _ q)
    refine wpAny_call (codeAny_mono (F.run X.A X.stack s2 J ⟨[], ks.zip ws⟩ _ _ Q (E σ) rm I2.env0 (bi.to s2 ws I2.kIn nu) all q) fun r s' z => ?_)
    match r, z with
    | .error e, z => exact pa σ pins J s2 e s' I2 z
    | .ok (.ret u), z => exact I2.after z
/-- C(e, ..) -/
theorem pe_makeG {E : XK} (M : Mk X.K C f) (F : FnG X.prog X.w X.K X.mg X.base CX k f fd ps sp) (rm : Rm (k + 1) X.A) (hg : Gl X x) (hm : X.mg x = some (.ref C)) (bi : Binds X.K fd ps ds) (dv : Vals dvs ds) (pa : Passes CX X E)
    (args : PA X (e :: es) t) (hdb : (x == ("__debug__" : Str)) = false := by decide) (st : starEach (e :: es) X.env = (false, eval e X.env) :: starEach es X.env := by rfl) (pl : (backTo pos (starEach es X.env)).any (·.1) = false := by rfl) :
    PE X (.Call (.Name x p) (e :: es) [] pos) (tMake C sp dvs E t) where
  run pins s σ H Q I h := by
    refine wpAny_Call_Name_kw (ld_glob I hg hm (PySem.W.callWith_K (h₀ := X.base) I.ok.mod.kin M.kp (thn (args.run pos pins s σ H _ I h) fun us s1 ⟨vs, J, I1, r, q⟩ => ⟨I1.kIn, ?_⟩) st pl) hdb)
    have q1 := q (s1.heap.objs.size + 1) s1.heap.objs.size (I1.hok.fresh (Nat.le_succ _)) (I1.hok.fresh (Nat.le_refl _)) (Nat.ne_of_lt (Nat.lt_succ_self _))
    have I2 := Inv.made (C := C) I1
    have all : Vals (V.ref (s1.heap.objs.size + 1) :: (vs ++ dvs)) (Value.ref (s1.heap.objs.size + 1) :: (us ++ ds)) := .cons rfl (r.append dv)
    have nu : (Value.ref (s1.heap.objs.size + 1) :: us ++ ds).length = ps.length := all.length.symm.trans (F.len _ _ _ _ q1)
    refine wpAny_call (make_map (f := f) I1.kIn M.makes M.init (beq_iff_eq.mp M.fn) (codeAny_mono (F.run _ X.stack _ _ ⟨Value.ref (s1.heap.objs.size + 1) :: us, []⟩ _ _ _ E (rm.make C us []) (I2.env0.make C us []) (bi _ (Value.ref (s1.heap.objs.size + 1) :: us) I2.kIn nu) all q1) fun r' s' z => ?_))
    match r', z with
    | .error e, z => exact pa pins σ _ _ e s' I2 z
    | .ok (.ret u), z =>
      obtain ⟨v, J', I3, rv, ev, q3⟩ := I2.after z
      cases ev
      exact ⟨rv, V.ref (s1.heap.objs.size + 1), J', I3, rfl, q3⟩
end
section
variable {P : Program} {w : World} {K : PySem.W.Frag} {mg : Str → Option Value} {base : Heap}
theorem funG {x qual : Str} {st : Stmt} {f : Addr} {fd : FuncData} {N ps : List Str} {k : Nat} {sp : Sp} (F : Fun K x qual st f fd) (S : FnScope N ps (defScope st)) (ln : ∀ vs H Q E, sp vs H Q E → vs.length = ps.length)
    (b : ∀ (cdv : Value) (A : Around) (fr : List Env) (s : Shared) (H : Hp) (vs : List V) (Q : VK) (E : XK), Rm k (A.deeper (envOfC qual (defScope st) s.heap.objs.size f cdv)) → sp vs H Q E →
      ∃ t, PSs (cxOf (L2.CX P w) P w K mg base N qual (defScope st) f cdv A fr s H E) (defBody st) t ∧ t { nx := fun _ J => Q .non J, rt := Q } (start N vs) H) : FnG P w K mg base (L2.CX P w) (k + 1) f fd ps sp := by
  obtain ⟨oc, od, kV, doc, pm, an, cdv, ct, sl, rfl, at_, cd⟩ := F.ex
  exact fnG_of at_ cd S ln (b cdv)
theorem funGD {x qual : Str} {pr : Arguments} {bd : List Stmt} {sc : Scope} {dvs : List V} {kws : List (Str × V)} {f : Addr} {fd : FuncData} {N ps : List Str} {k : Nat} {sp : Sp} (F : FunD K x qual pr bd sc dvs kws f fd) (S : FnScope N ps sc) (ln : ∀ vs H Q E, sp vs H Q E → vs.length = ps.length)
    (b : ∀ (cdv : Value) (A : Around) (fr : List Env) (s : Shared) (H : Hp) (vs : List V) (Q : VK) (E : XK), Rm k (A.deeper (envOfC qual sc s.heap.objs.size f cdv)) → sp vs H Q E →
      ∃ t, PSs (cxOf (L2.CX P w) P w K mg base N qual sc f cdv A fr s H E) bd t ∧ t { nx := fun _ J => Q .non J, rt := Q } (start N vs) H) : FnG P w K mg base (L2.CX P w) (k + 1) f fd ps sp := by
  obtain ⟨oc, od, dV, kV, doc, pm, an, cdv, ct, sl, rfl, at_, cd, _⟩ := F.ex
  exact fnG_of at_ cd S ln (b cdv)
end
end Py

set_option Elab.async false
set_option linter.all false
set_option maxRecDepth 100000
namespace Py
open PySem PySem.Spec PyProof.Rows L2

/-! ### calls of the text's own defs -/
abbrev MF := List D → CH → RE
def PoC (T : Tab) (K : PySem.W.Frag) (α : List Addr) (H : Hp) (Q : VK) (E : XK) : RE → Prop
  | .ok d h => ∀ v H' α', Tr α H α' H' → SH T K α' H' h → Rep T K α' H' v d → Q v H'
  | .ex c fs h => ∀ cls dx H' α', Tr α H α' H' → SH T K α' H' h → XRep T K α' H' cls dx c fs → E cls dx H'
  | .no => False
/-- so many arguments -/
def ar (n : Nat) (mf : MF) : MF := fun ds h => if ds.length = n then mf ds h else .no
/-- a def's promise: it does what mf says -/
def spM (T : Tab) (K : PySem.W.Frag) (n : Nat) (mf : MF) : Sp := fun vs H Q E => ∃ g α h ds, SH (T.hide g) K α H h ∧ Reps (T.hide g) K α H vs ds ∧ PoC (T.hide g) K α H Q E (ar n mf ds h)
theorem spM_len {T : Tab} {K : PySem.W.Frag} {n : Nat} {mf : MF} {vs : List V} {H : Hp} {Q : VK} {E : XK} (h : spM T K n mf vs H Q E) : vs.length = n := by
  obtain ⟨g, α, h, ds, _, r, p⟩ := h
  unfold ar at p
  split at p
  · next e => rw [r.length, e]
  · exact p.elim
/-- the def that stands at the name x keeps its promise; dd: its defaults -/
structure FnM (T : Tab) (P : Program) (w : World) (K : PySem.W.Frag) (mg : Str → Option Value) (base : Heap) (k : Nat) (x : Str) (n : Nat) (dd : List D) (mf : MF) : Prop where
  ex : ∃ (f : Addr) (fd : FuncData) (ps : List Str) (dvs : List V) (ds : List Value), FnG P w K mg base (L2.CX P w) k f fd ps (spM T K n mf) ∧ mg x = some (.ref f) ∧ PySem.W.keepIn K (.ref f) = true ∧
    Binds K fd ps ds ∧ Vals dvs ds ∧ ∀ g α H, Reps (T.hide g) K α H dvs dd
def mCall (n : Nat) (mf : MF) (dd : List D) (ma : MA) : ME := fun s h => (ma s h).bind fun ds h1 => ar n mf (ds ++ dd) h1
theorem PoE.call {T : Tab} {K : PySem.W.Frag} {α : List Addr} {σ : L2.St} {H : Hp} {s : SLS} {Q : VK} {W : WX} {r : RE} (h : PoE T K α σ H s Q W r) : PoC T K α H Q (WE W σ) r := by
  cases r with
  | ok d h2 => exact h
  | ex c fs h2 => exact h
  | no => exact h
section
variable {T : Tab} {W : WX} {X : Cx} {p pos : Pos} {e : Expr} {es : List Expr} {ma : MA} {k n : Nat} {x : Str} {dd : List D} {mf : MF}
theorem se_call (F : FnM T X.prog X.w X.K X.mg X.base k x n dd mf) (tk : Takes X W) (hr : Rm k X.A) (ha : SA T W X (e :: es) ma) (hg : Gl X x := by rfl) (hdb : (x == ("__debug__" : Str)) = false := by decide)
    (he : starEach (e :: es) X.env = (false, eval e X.env) :: starEach es X.env := by rfl) (hpl : (backTo pos (starEach es X.env)).any (·.1) = false := by rfl) :
    SE T W X (.Call (.Name x p) (e :: es) [] pos) (mCall n mf dd ma) := by
  obtain ⟨ta, pa, sa⟩ := ha
  obtain ⟨f, fd, ps, dvs, dvu, F1, hm, hk, hb, hv, hd⟩ := F.ex
  refine ⟨_, pe_callG F1 hr hg hm hk hb hv (fun σ => passAt tk σ) pa hdb he hpl, fun g α σ H s h sh sl Q po => ?_⟩
  refine sa.run sh sl po fun xs ds α1 H1 h1 t1 sh1 sl1 r1 po1 => ?_
  exact ⟨g, α1, h1, ds ++ dd, sh1, r1.append (hd g α1 H1), po1.call⟩
end

/-! ### C(..) -/
inductive RI where
  | ok (fs : Xfs)
  | ex (c : Nat) (fs : Xfs) (part : Xfs)
  | no
/-- what a class's __init__ makes of its arguments: the fields -/
abbrev MI := List D → CH → RI
def mfInit (c : Nat) (mi : MI) : MF := fun ds h => match ds with
  | .cell n :: ds => if n + 1 = h.length then (match h[n]? with
      | some (.ob c' []) => if c' = c then (match mi ds (h.take n) with
        | .ok fs => .ok .non (h.take n ++ [.ob c fs])
        | .ex c1 fs part => .ex c1 fs (h.take n ++ [.ob c part])
        | .no => .no) else .no
      | _ => .no) else .no
  | _ => .no
structure MkM (T : Tab) (P : Program) (w : World) (K : PySem.W.Frag) (mg : Str → Option Value) (base : Heap) (k : Nat) (x : Str) (c : Nat) (n : Nat) (dd : List D) (mi : MI) : Prop where
  ex : ∃ (f : Addr) (fd : FuncData) (ps : List Str) (dvs : List V) (ds : List Value), FnG P w K mg base (L2.CX P w) k f fd ps (spM T K (n + 1) (mfInit c mi)) ∧ Mk K (T.cls c) f ∧ mg x = some (.ref (T.cls c)) ∧
    Binds K fd ps ds ∧ Vals dvs ds ∧ ∀ g α H, Reps (T.hide g) K α H dvs dd
mutual
def D.low (n : Nat) : D → Bool
  | .cell m => decide (m < n)
  | .tup ds => D.lows n ds
  | .lst ds => D.lows n ds
  | .obj _ _ ds => D.lows n ds
  | .non | .bl _ | .int _ | .str _ | .fn _ | .scr _ => true
def D.lows (n : Nat) : List D → Bool
  | [] => true
  | d :: ds => D.low n d && D.lows n ds
end
def Cell.vals : Cell → List D
  | .lst ds => ds
  | .ob _ fs => fs.map (·.2)
  | .dT kvs => kvs.map (·.2)
  | .dK kvs => kvs.map (·.2)
def Cell.low (n : Nat) (c : Cell) : Bool := D.lows n c.vals
section
variable {T : Tab} {K : PySem.W.Frag} {α α' β : List Addr} {H H' : Hp}
theorem IsT.pop {a : Addr} {xs : List V} (h : IsT T K (α ++ β) H a xs) : IsT T K α H a xs := by
  rcases h with ⟨h, n⟩ | h
  · exact .inl ⟨h, fun m => n.1 (List.mem_append_left _ m), n.2⟩
  · exact .inr h
theorem IsS.pop {a : Addr} {xs : List V} (h : IsS T K (α ++ β) H a xs) : IsS T K α H a xs := by
  rcases h with ⟨h, n⟩ | h
  · exact .inl ⟨h, fun m => n.1 (List.mem_append_left _ m), n.2⟩
  · exact .inr h
mutual
/-- cells that are not spoken of may be forgotten -/
theorem Rep.pop : ∀ {v : V} {d : D}, Rep T K (α ++ β) H v d → D.low α.length d = true → Rep T K α H v d
  | _, _, .non, _ => .non
  | _, _, .bl b, _ => .bl b
  | _, _, .int i, _ => .int i
  | _, _, .str x, _ => .str x
  | _, _, .tup h r, e => .tup h.pop (Reps.pop r (by simpa [D.low] using e))
  | _, _, .lst h n r, e => .lst h ⟨fun m => n.1 (List.mem_append_left _ m), n.2⟩ (Reps.pop r (by simpa [D.low] using e))
  | _, _, .obj h n l r, e => .obj h ⟨fun m => n.1 (List.mem_append_left _ m), n.2⟩ l (Reps.pop r (by simpa [D.low] using e))
  | _, .cell n, .cell h, e => .cell (by
      have e' : n < α.length := by simpa [D.low] using e
      rw [List.getElem?_append_left e'] at h
      exact h)
  | _, _, .fn n, _ => .fn n
  | _, _, .scr h, _ => .scr h.pop
theorem Reps.pop : ∀ {vs : List V} {ds : List D}, Reps T K (α ++ β) H vs ds → D.lows α.length ds = true → Reps T K α H vs ds
  | _, _, .nil, _ => .nil
  | _, _, .cons r rs, e => by
    simp only [D.lows, Bool.and_eq_true] at e
    exact .cons (Rep.pop r e.1) (Reps.pop rs e.2)
end
mutual
theorem Rep.low : ∀ {v : V} {d : D}, Rep T K α H v d → D.low α.length d = true
  | _, _, .non => rfl
  | _, _, .bl b => rfl
  | _, _, .int i => rfl
  | _, _, .str x => rfl
  | _, _, .tup h r => by simp only [D.low]; exact Reps.low r
  | _, _, .lst h n r => by simp only [D.low]; exact Reps.low r
  | _, _, .obj h n l r => by simp only [D.low]; exact Reps.low r
  | _, _, .cell h => by simp only [D.low, decide_eq_true_eq]; exact (List.getElem?_eq_some_iff.mp h).1
  | _, _, .fn n => rfl
  | _, _, .scr h => rfl
theorem Reps.low : ∀ {vs : List V} {ds : List D}, Reps T K α H vs ds → D.lows α.length ds = true
  | _, _, .nil => rfl
  | _, _, .cons r rs => by simp only [D.lows, Bool.and_eq_true]; exact ⟨Rep.low r, Reps.low rs⟩
end
theorem CellOk.pop {a : Addr} {c : Cell} (h : CellOk T K (α ++ β) H a c) (e : c.low α.length = true) : CellOk T K α H a c := by
  cases c with
  | lst ds => obtain ⟨xs, h, r⟩ := h; exact ⟨xs, h, r.pop e⟩
  | ob c fs => obtain ⟨dx, xs, h, e1, r⟩ := h; exact ⟨dx, xs, h, e1, r.pop e⟩
  | dT kvs => obtain ⟨xs, h, e1, r⟩ := h; exact ⟨xs, h, e1, r.pop e⟩
  | dK kvs => obtain ⟨xs, h, e1, r⟩ := h; exact ⟨xs, h, e1, r.pop e⟩
theorem CellOk.low {a : Addr} {c : Cell} (h : CellOk T K α H a c) : c.low α.length = true := by
  cases c with
  | lst ds => obtain ⟨xs, h, r⟩ := h; exact r.low
  | ob c fs => obtain ⟨dx, xs, h, e1, r⟩ := h; exact r.low
  | dT kvs => obtain ⟨xs, h, e1, r⟩ := h; exact r.low
  | dK kvs => obtain ⟨xs, h, e1, r⟩ := h; exact r.low
theorem SH.low {h : CH} (sh : SH T K α H h) : ∀ c ∈ h, c.low h.length = true := fun c m => by
  obtain ⟨n, hn, e⟩ := List.getElem_of_mem m
  have l : n < α.length := by rw [sh.len]; exact hn
  rw [← sh.len]
  exact (sh.at_ n α[n] c (List.getElem?_eq_getElem l) (by rw [List.getElem?_eq_getElem hn, e])).low
theorem SH.pop {h j : CH} (sh : SH T K (α ++ β) H (h ++ j)) (l : α.length = h.length) (e : ∀ c ∈ h, c.low h.length = true) : SH T K α H h := by
  refine ⟨(List.nodup_append.mp sh.nd).1, l, fun n a c h1 h2 => ?_, fun a ha => ⟨(sh.hal a ha).1, fun m => (sh.hal a ha).2 (List.mem_append_left _ m)⟩⟩
  have hn := (List.getElem?_eq_some_iff.mp h1).1
  have q := sh.at_ n a c (by rw [List.getElem?_append_left hn]; exact h1) (by rw [List.getElem?_append_left (by omega)]; exact h2)
  exact q.pop (by rw [l]; exact e c (List.mem_of_getElem? h2))
theorem Tr.pop {α : List Addr} {H H' : Hp} {x : Addr} {o : HO} {γ : List Addr} (t : Tr (α ++ [x]) (upd H x o) (α ++ [x] ++ γ) H') (hn : H x = none) : Tr α H α H' :=
  ⟨⟨[], by simp, by simp⟩, fun b u e n => t.fr b u (by rw [upd_ne (ne_of_none e hn)]; exact e) (fun m => by
      rcases List.mem_append.mp m with m | m
      · exact n m
      · simp at m; subst m; rw [hn] at e; cases e), fun b e => by
    have q := t.mono b e
    by_cases hb : b = x
    · rw [hb]; exact hn
    · rw [upd_ne hb] at q; exact q⟩
end
/-- what is wanted of an exception hangs not on the names -/
def WI (W : WX) : Prop := ∀ cls d σ σ' H, W cls d σ H → W cls d σ' H
def mMake (c : Nat) (n : Nat) (mi : MI) (dd : List D) (ma : MA) : ME := fun s h => (ma s h).bind fun ds h1 => if (ds ++ dd).length = n then (match mi (ds ++ dd) h1 with
  | .ok fs => if D.lows h1.length (fs.map (·.2)) = true then .ok (.obj c (fs.map (·.1)) (fs.map (·.2))) h1 else .no
  | .ex c1 fs part => if D.lows h1.length (fs.map (·.2)) = true then .ex c1 fs h1 else .no
  | .no => .no) else .no
section
variable {T : Tab} {W : WX} {X : Cx} {p pos : Pos} {e : Expr} {es : List Expr} {ma : MA} {k n c : Nat} {x : Str} {dd : List D} {mi : MI}
theorem zip_maps {β γ : Type} : ∀ (fs : List (β × γ)), (fs.map (·.1)).zip (fs.map (·.2)) = fs
  | [] => rfl
  | (a, b) :: r => by simp [zip_maps r]
theorem passI (tk : Takes X W) (wi : WI W) : Passes (L2.CX X.prog X.w) X (fun cls d H => ∀ σ, W cls d σ H) := fun _ _ _ _ e s' I c => tk e s' (XE.of_call I (fun _ _ _ h => h _) c)
theorem se_make (M : MkM T X.prog X.w X.K X.mg X.base k x c n dd mi) (tk : Takes X W) (wi : WI W) (hr : Rm (k + 1) X.A) (ha : SA T W X (e :: es) ma) (hg : Gl X x := by rfl) (hdb : (x == ("__debug__" : Str)) = false := by decide)
    (he : starEach (e :: es) X.env = (false, eval e X.env) :: starEach es X.env := by rfl) (hpl : (backTo pos (starEach es X.env)).any (·.1) = false := by rfl) :
    SE T W X (.Call (.Name x p) (e :: es) [] pos) (mMake c n mi dd ma) := by
  obtain ⟨ta, pa, sa⟩ := ha
  obtain ⟨f, fd, ps, dvs, dvu, F1, mk, hm, hb, hv, hd⟩ := M.ex
  refine ⟨_, pe_makeG mk F1 hr hg hm hb hv (passI tk wi) pa hdb he hpl, fun g α σ H s h sh sl Q po => ?_⟩
  refine sa.run sh sl po fun xs ds α1 H1 h1 t1 sh1 sl1 r1 po1 => ?_
  intro a dx na ndx nex
  have r2 := r1.append (hd g α1 H1)
  have d0 : Tr α1 H1 α1 (upd H1 dx (.own a)) := Tr.new ndx
  have na' : (upd H1 dx (.own a)) a = none := by rw [upd_ne (Ne.symm nex)]; exact na
  have sh2 := (sh1.new (o := .own a) ndx).newc (o := .ins (T.cls c) dx []) (c := .ob c []) na' ⟨dx, [], upd_same, rfl, .nil⟩
  have t2 := d0.trans (Tr.newc (o := .ins (T.cls c) dx []) na')
  refine ⟨g, α1 ++ [a], h1 ++ [.ob c []], .cell h1.length :: (ds ++ dd), sh2, .cons (.cell (by rw [← sh1.len]; simp)) (r2.tr t2), ?_⟩
  split at po1
  · next hlen =>
    unfold ar mfInit
    rw [if_pos (by rw [List.length_cons, hlen])]
    simp only [List.length_append, List.length_cons, List.length_nil, Nat.zero_add, if_true]
    rw [List.getElem?_append_right (Nat.le_refl _), Nat.sub_self]
    simp only [List.getElem?_cons_zero, if_true, List.take_left']
    have bel := sh1.low
    generalize hmi : mi (ds ++ dd) h1 = r at po1
    cases r with
    | ok fs =>
      simp only at po1 ⊢
      split at po1
      · next hbe =>
        intro v H' α' t sh' rv
        cases rv
        refine ⟨rfl, ?_⟩
        obtain ⟨γ, rfl, _⟩ := t.pre
        have hl := sh'.len
        simp only [List.length_append, List.length_cons, List.length_nil, sh1.len] at hl
        have g0 : γ = [] := by
          cases γ with
          | nil => rfl
          | cons _ _ => simp at hl
        subst g0
        rw [List.append_nil] at sh'
        have sh3 : SH (T.hide g) X.K α1 H' h1 := sh'.pop sh1.len bel
        obtain ⟨dx', ys, e1, e2, e3⟩ := sh'.at_ h1.length a (.ob c fs) (by rw [← sh1.len]; simp) (by simp)
        have t3 : Tr α1 H1 α1 H' := d0.trans (Tr.pop t na')
        refine po1 _ H' α1 t3 sh3 (.obj (dx := dx') (xs := ys.map (·.2)) ?_ (sh1.free na) ?_ (e3.pop (by rw [sh1.len]; exact hbe)))
        · rw [← e2, zip_maps]; exact e1
        · rw [← e2]; simp
      · exact po1.elim
    | ex c1 fs part =>
      simp only at po1 ⊢
      split at po1
      · next hbe =>
        intro cls d H' α' t sh' xr σ'
        obtain ⟨γ, rfl, _⟩ := t.pre
        have hl := sh'.len
        simp only [List.length_append, List.length_cons, List.length_nil, sh1.len] at hl
        have g0 : γ = [] := by
          cases γ with
          | nil => rfl
          | cons _ _ => simp at hl
        subst g0
        rw [List.append_nil] at sh' xr
        have sh3 : SH (T.hide g) X.K α1 H' h1 := sh'.pop sh1.len bel
        have t3 : Tr α1 H1 α1 H' := d0.trans (Tr.pop t na')
        obtain ⟨ec, d', ys, ed, e1, e2, e3⟩ := xr
        exact wi _ _ σ _ _ (po1 cls d H' α1 t3 sh3 ⟨ec, d', ys, ed, e1, e2, e3.pop (by rw [sh1.len]; exact hbe)⟩)
      · exact po1.elim
    | no => exact po1.elim
  · exact po1.elim
end
end Py

set_option Elab.async false
set_option linter.all false
set_option maxRecDepth 100000
namespace Py
open PySem PySem.Spec PyProof.Rows L2

/-! ### what is bound to what: names and rows of names -/
abbrev MG := D → SLS → Option SLS
def SndG (T : Tab) (K : PySem.W.Frag) (tg : TG) (mg : MG) : Prop := ∀ g α σ H s v d, SL (T.hide g) K α H σ s → Rep (T.hide g) K α H v d → ∀ Q : L2.St → Hp → Prop,
  (match mg d s with | some s' => ∀ σ', SL (T.hide g) K α H σ' s' → Q σ' H | none => False) → tg v σ H Q
def SG (T : Tab) (X : Cx) (e : Expr) (mg : MG) : Prop := ∃ g, PG X e g ∧ SndG T X.K g mg
def SndGs (T : Tab) (K : PySem.W.Frag) (tg : TGs) (mg : List D → SLS → Option SLS) : Prop := ∀ g α σ H s vs ds, SL (T.hide g) K α H σ s → Reps (T.hide g) K α H vs ds → ∀ Q : L2.St → Hp → Prop,
  (match mg ds s with | some s' => ∀ σ', SL (T.hide g) K α H σ' s' → Q σ' H | none => False) → tg vs σ H Q
def SGs (T : Tab) (X : Cx) (es : List Expr) (mg : List D → SLS → Option SLS) : Prop := ∃ g, PGs X es g ∧ SndGs T X.K g mg
def gN (i : Nat) : MG := fun d s => some (s.set i (some d))
def gNils : List D → SLS → Option SLS := fun ds s => match ds with | [] => some s | _ => none
def gConss (g : MG) (r : List D → SLS → Option SLS) : List D → SLS → Option SLS := fun ds s => match ds with | d :: ds => (match g d s with | some s' => r ds s' | none => none) | _ => none
def gT (n : Nat) (r : List D → SLS → Option SLS) : MG := fun d s => match d with | .tup ds => if ds.length = n then r ds s else none | _ => none
section
variable {T : Tab} {W : WX} {X : Cx} {pos : Pos} {a : Expr}
theorem sg_name (i : Nat) {x : Str} (hN : X.N.Nodup) (hi : X.N[i]? = some x := by rfl) (hx : Loc X.env.scope x := by first | exact Or.inl rfl | exact Or.inr rfl)
    (hf : X.fn x = true ∨ X.env.scope.names.lookup x = some .local := by first | exact .inl rfl | exact .inr rfl) : SG T X (.Name x pos) (gN i) :=
  ⟨_, pg_name hN hi hx hf, fun g α σ H s v d sl r Q q => q _ (sl.set r i)⟩
theorem sgs_nil : SGs T X [] gNils := ⟨_, pgs_nil, fun g α σ H s vs ds sl r Q q => by
  cases r with
  | nil => exact ⟨rfl, q σ sl⟩
  | cons _ _ => exact q.elim⟩
theorem sgs_cons {e : Expr} {es : List Expr} {gm : MG} {r : List D → SLS → Option SLS} (h1 : SG T X e gm) (h2 : SGs T X es r) (ha : (assignEach (e :: es) X.env).map (·.2) = assign e X.env :: (assignEach es X.env).map (·.2) := by rfl) : SGs T X (e :: es) (gConss gm r) := by
  obtain ⟨ta, pa, sa⟩ := h1
  obtain ⟨tb, pb, sb⟩ := h2
  refine ⟨_, pgs_cons pa pb ha, fun g α σ H s vs ds sl rs Q q => ?_⟩
  cases rs with
  | nil => exact q.elim
  | cons r1 r2 =>
    refine ⟨_, _, rfl, sa g α σ H s _ _ sl r1 _ ?_⟩
    unfold gConss at q
    simp only at q
    generalize gm _ s = o at q
    cases o with
    | none => exact q.elim
    | some s' => exact fun σ' sl' => sb g α σ' H s' _ _ sl' r2 Q q
theorem sg_tup {es : List Expr} {k n : Nat} {r : List D → SLS → Option SLS} (hc : X.calm = true) (h : SGs T X es r) (hn : (assignEach es X.env).length = n := by rfl) (hst : (assignEach es X.env).findIdx? (·.1) = none := by rfl) : SG T X (.Tuple es k pos) (gT n r) := by
  obtain ⟨tb, pb, sb⟩ := h
  refine ⟨_, pg_tup (n := n) hc pb hn hst, fun g α σ H s v d sl rr Q q => ?_⟩
  unfold gT at q
  split at q
  · next s' e =>
    split at e
    · next ds =>
      cases rr with
      | tup h1 rs =>
        split at e
        · next hz =>
          refine ⟨_, _, rfl, h1.sq, by rw [rs.length]; exact hz, sb g α σ H s _ _ sl rs Q ?_⟩
          rw [e]
          exact q
        · cases e
    · cases e
  · exact q.elim
end

/-! ### statements -/
def sNext : MS := fun s h => .nx s h
def sSeq (m r : MS) : MS := fun s h => (m s h).bind r
def sAsg (m : ME) (g : MG) : MS := fun s h => (m s h).bindS s fun d h1 => match g d s with | some s' => .nx s' h1 | none => .no
def sExpr (m : ME) : MS := fun s h => (m s h).bindS s fun _ h1 => .nx s h1
def sRet (m : ME) : MS := fun s h => (m s h).bindS s fun d h1 => .rt d h1
def sRetN : MS := fun _ h => .rt .non h
def sBk : MS := fun s h => .bk s h
def sCt : MS := fun s h => .ct s h
def sIf (c : ME) (a b : MS) : MS := fun s h => (c s h).bindS s fun d h1 => match d with | .bl true => a s h1 | .bl false => b s h1 | _ => .no
def sNo : MS := fun _ _ => .no
def sPar (i j : Nat) (m : MA) : MS := fun s h => match m s h with
  | .ok [d, e] h1 => .nx ((s.set i (some d)).set j (some e)) h1
  | .ex c fs h1 => .ex c fs s h1
  | _ => .no
section
variable {T : Tab} {W : WX} {X : Cx} {pos : Pos} {a b e : Expr} {ma mb me : ME} {st : Stmt} {sts : List Stmt} {m r : MS}
theorem sss_nil : SSs T W X [] sNext := ⟨_, pss_nil, fun g α σ H s h sh sl D po => po σ H α (Tr.refl _ _) sh sl⟩
theorem sss_cons (h1 : SS T W X st m) (h2 : SSs T W X sts r) : SSs T W X (st :: sts) (sSeq m r) := by
  obtain ⟨ta, pa, sa⟩ := h1
  obtain ⟨tb, pb, sb⟩ := h2
  refine ⟨_, pss_cons pa pb, fun g α σ H s h sh sl D po => ?_⟩
  refine sa g α σ H s h sh sl { D with nx := tb D } ?_
  unfold sSeq at po
  generalize m s h = o at po
  cases o with
  | nx s1 h1 => exact fun σ' H' α' t sh' sl' => sb g α' σ' H' s1 h1 sh' sl' D (PoS.tr t po)
  | rt d h1 => exact po
  | bk s1 h1 => exact po
  | ct s1 h1 => exact po
  | ex c fs s1 h1 => exact po
  | no => exact po
theorem ss_pass : SS T W X (.Pass pos) sNext := ⟨_, ps_pass, fun g α σ H s h sh sl D po => po σ H α (Tr.refl _ _) sh sl⟩
theorem ss_break : SS T W X (.Break pos) sBk := ⟨_, ps_break, fun g α σ H s h sh sl D po => po σ H α (Tr.refl _ _) sh sl⟩
theorem ss_continue : SS T W X (.Continue pos) sCt := ⟨_, ps_continue, fun g α σ H s h sh sl D po => po σ H α (Tr.refl _ _) sh sl⟩
theorem ss_no : SS T W X st sNo := ⟨_, ps_never, fun g α σ H s h sh sl D po => po.elim⟩
theorem sss_no : SSs T W X sts sNo := ⟨_, pss_never, fun g α σ H s h sh sl D po => po.elim⟩
theorem ss_expr (ha : SE T W X a ma) (hs : swapsWith a none pos.line X.env = pure false := by rfl) : SS T W X (.Expr a pos) (sExpr ma) := by
  obtain ⟨ta, pa, sa⟩ := ha
  refine ⟨_, ps_expr pa hs, fun g α σ H s h sh sl D po => ?_⟩
  refine sa.runS sh sl po fun v d α1 H1 h1 t1 sh1 sl1 r1 po1 => ?_
  exact po1 σ H1 α1 (Tr.refl _ _) sh1 sl1
theorem ss_ret (ha : SE T W X a ma) : SS T W X (.Return (some a) pos) (sRet ma) := by
  obtain ⟨ta, pa, sa⟩ := ha
  refine ⟨_, ps_ret pa, fun g α σ H s h sh sl D po => ?_⟩
  refine sa.runS sh sl po fun v d α1 H1 h1 t1 sh1 sl1 r1 po1 => ?_
  exact po1 v H1 α1 (Tr.refl _ _) sh1 r1
theorem ss_retN : SS T W X (.Return none pos) sRetN := ⟨_, ps_retN, fun g α σ H s h sh sl D po => po _ H α (Tr.refl _ _) sh .non⟩
theorem ss_if {xs ys : List Stmt} {m r : MS} (hc : ST T W X e me) (ha : SSs T W X xs m) (hb : SSs T W X ys r) : SS T W X (.If e xs ys pos) (sIf me m r) := by
  obtain ⟨tc, pc, sc⟩ := hc
  obtain ⟨ta, pa, sa⟩ := ha
  obtain ⟨tb, pb, sb⟩ := hb
  refine ⟨_, ps_if pc pa pb, fun g α σ H s h sh sl D po => ?_⟩
  refine sc.runS sh sl po (fun d h hb => by cases d with | bl b => exact absurd rfl (hb b) | _ => rfl) fun b α1 H1 h1 t1 sh1 sl1 po1 => ?_
  cases b with
  | true =>
    rw [if_pos rfl]
    exact sa g α1 σ H1 s h1 sh1 sl1 D po1
  | false =>
    rw [if_neg Bool.false_ne_true]
    exact sb g α1 σ H1 s h1 sh1 sl1 D po1
theorem ss_asg {tg : Expr} {gm : MG} (ha : SE T W X e me) (hg : SG T X tg gm) (hs : swapsWithSole [tg] e pos.line X.env = pure false := by rfl) (hw : swappedStores [tg] e X.env = pure none := by rfl)
    (h1 : (assignEach [tg] X.env).map (·.2) = [assign tg X.env] := by rfl) : SS T W X (.Assign [tg] e pos) (sAsg me gm) := by
  obtain ⟨ta, pa, sa⟩ := ha
  obtain ⟨tg', pg, sg⟩ := hg
  refine ⟨_, ps_asg pa pg hs hw h1, fun g α σ H s h sh sl D po => ?_⟩
  refine sa.runS sh sl po fun v d α1 H1 h1 t1 sh1 sl1 r1 po1 => ?_
  refine sg g α1 σ H1 s v d sl1 r1 _ ?_
  generalize gm d s = o at po1
  cases o with
  | none => exact po1
  | some s' => exact fun σ' sl' => po1 σ' H1 α1 (Tr.refl _ _) sh1 sl'
theorem ss_par {i j : Nat} {x y : Str} {px py pt : Pos} {kt k2 : Nat} {pt2 : Pos} {mm : MA} (hc : X.calm = true) (hN : X.N.Nodup) (ha : SA T W X [a, b] mm) (hi : X.N[i]? = some x := by rfl) (hj : X.N[j]? = some y := by rfl) (hij : i ≠ j := by decide)
    (hx : X.env.scope.names.lookup x = some .local := by rfl) (hy : X.env.scope.names.lookup y = some .local := by rfl)
    (hw : swappedStores [.Tuple [.Name x px, .Name y py] kt pt] (.Tuple [a, b] k2 pt2) X.env = pure (some [x, y]) := by rfl)
    (hs : swapsWithSole [.Tuple [.Name x px, .Name y py] kt pt] (.Tuple [a, b] k2 pt2) pos.line X.env = pure false := by rfl) :
    SS T W X (.Assign [.Tuple [.Name x px, .Name y py] kt pt] (.Tuple [a, b] k2 pt2) pos) (sPar i j mm) := by
  obtain ⟨ta, pa, sa⟩ := ha
  refine ⟨_, ps_par hc hN hi hj hij hx hy pa hw hs, fun g α σ H s h sh sl D po => ?_⟩
  refine sa g α σ H s h sh sl _ ?_
  unfold sPar at po
  generalize mm s h = o at po
  cases o with
  | no => exact po.elim
  | ex c fs h1 => exact fun cls dx H2 α2 t sh2 x => po cls dx σ H2 α2 t sh2 (sl.tr t) x
  | ok ds h1 =>
    intro vs H' α' t sh' rs
    split at po
    · next d e' h1' heq =>
      cases heq
      obtain ⟨v, u, rfl, r1, r2⟩ := rs.two
      exact ⟨v, u, rfl, po _ H' α' t sh' (((sl.tr t).set r1 i).set r2 j)⟩
    · next heq => cases heq
    · exact po.elim
end

/-! ### name op= value -/
def SndIp (T : Tab) (K : PySem.W.Frag) (r : TIp) (f : F2) : Prop := SndR T K r f
def sAug (i : Nat) (f : F2) (me : ME) : MS := fun s h => match s[i]? with
  | some (some x) => (me s h).bindS s fun y h1 => (match f h1 x y with | some d => .nx (s.set i (some d)) h1 | none => .no)
  | _ => .no
section
variable {T : Tab} {W : WX} {X : Cx} {pos : Pos} {a b e : Expr} {ma mb me : ME}
theorem sip_add {K : PySem.W.Frag} : SndR T K (ipI fun i j => i + j) (fInt fun i j => some (.int (i + j))) := fun g α H hp x y dx dy d sh rx ry e Q q => by
  unfold fInt at e
  split at e
  · cases e; cases rx; cases ry
    exact ⟨_, _, rfl, rfl, q _ H (Tr.refl _ _) sh (.int _)⟩
  · cases e
theorem sip_sub {K : PySem.W.Frag} : SndR T K (ipI fun i j => i - j) (fInt fun i j => some (.int (i - j))) := fun g α H hp x y dx dy d sh rx ry e Q q => by
  unfold fInt at e
  split at e
  · cases e; cases rx; cases ry
    exact ⟨_, _, rfl, rfl, q _ H (Tr.refl _ _) sh (.int _)⟩
  · cases e
theorem ss_aug {op : Operator} {r : TIp} {f : F2} {i : Nat} {x : Str} {pos' : Pos} (hp : PIp X op r) (hr : SndR T X.K r f) (hN : X.N.Nodup) (ha : SE T W X e me) (hi : X.N[i]? = some x := by rfl) (hx : Loc X.env.scope x := by first | exact Or.inl rfl | exact Or.inr rfl)
    (hf : X.fn x = true ∨ X.env.scope.names.lookup x = some .local := by first | exact .inl rfl | exact .inr rfl) : SS T W X (.AugAssign (.Name x pos') op e pos) (sAug i f me) := by
  obtain ⟨ta, pa, sa⟩ := ha
  refine ⟨_, ps_aug hN hi hx pa hp hf, fun g α σ H s h sh sl D po => ?_⟩
  unfold sAug at po
  split at po
  · next d e1 =>
    obtain ⟨v, e2, rv⟩ := sl.at_ i d e1
    refine ⟨v, e2, sa.runS sh sl po fun u d2 α1 H1 h1 t1 sh1 sl1 r1 po1 => ?_⟩
    split at po1
    · next z e3 => exact hr g α1 H1 h1 v u d d2 z sh1 (rv.tr t1) r1 e3 _ fun w H2 t2 sh2 r2 => po1 _ H2 α1 t2 sh2 ((sl1.tr t2).set r2 i)
    · exact po1.elim
  · exact po.elim
theorem ss_augAdd {i : Nat} {x : Str} {pos' : Pos} (hN : X.N.Nodup) (ha : SE T W X e me) (hi : X.N[i]? = some x := by rfl) (hx : Loc X.env.scope x := by first | exact Or.inl rfl | exact Or.inr rfl)
    (hf : X.fn x = true ∨ X.env.scope.names.lookup x = some .local := by first | exact .inl rfl | exact .inr rfl) : SS T W X (.AugAssign (.Name x pos') .Add e pos) (sAug i (fInt fun i j => some (.int (i + j))) me) := ss_aug ip_add sip_add hN ha hi hx hf
theorem ss_augSub {i : Nat} {x : Str} {pos' : Pos} (hN : X.N.Nodup) (ha : SE T W X e me) (hi : X.N[i]? = some x := by rfl) (hx : Loc X.env.scope x := by first | exact Or.inl rfl | exact Or.inr rfl)
    (hf : X.fn x = true ∨ X.env.scope.names.lookup x = some .local := by first | exact .inl rfl | exact .inr rfl) : SS T W X (.AugAssign (.Name x pos') .Sub e pos) (sAug i (fInt fun i j => some (.int (i - j))) me) := ss_aug ip_sub sip_sub hN ha hi hx hf
end
end Py

set_option Elab.async false
set_option linter.all false
set_option maxRecDepth 100000
namespace Py
open PySem PySem.Spec PyProof.Rows L2

/-! ### another view of the hidden lists -/
section
variable {T : Tab} {K : PySem.W.Frag} {g g' : List Addr} {α : List Addr} {H H' : Hp}
/-- what is kept, and stays apart -/
def Mv (g g' α : List Addr) (H H' : Hp) : Prop := ∀ a o, H a = some o → a ∉ g → (H' a = some o ∧ a ∉ g')
theorem IsT.mv (m : Mv g g' α H H') {a : Addr} {xs : List V} (h : IsT (T.hide g) K α H a xs) : IsT (T.hide g') K α H' a xs := by
  rcases h with ⟨h, n1, n2⟩ | h
  · rcases h with h | ⟨o, h⟩
    · exact .inl ⟨.inl (m a _ h n2).1, n1, (m a _ h n2).2⟩
    · exact .inl ⟨.inr ⟨o, (m a _ h n2).1⟩, n1, (m a _ h n2).2⟩
  · exact .inr h
theorem IsS.mv (m : Mv g g' α H H') {a : Addr} {xs : List V} (h : IsS (T.hide g) K α H a xs) : IsS (T.hide g') K α H' a xs := by
  rcases h with ⟨h, n1, n2⟩ | h
  · rcases h with h | ⟨o, h⟩
    · exact .inl ⟨.inl (m a _ h n2).1, n1, (m a _ h n2).2⟩
    · exact .inl ⟨.inr ⟨o, (m a _ h n2).1⟩, n1, (m a _ h n2).2⟩
  · exact .inr h
mutual
theorem Rep.mv (m : Mv g g' α H H') : ∀ {v : V} {d : D}, Rep (T.hide g) K α H v d → Rep (T.hide g') K α H' v d
  | _, _, .non => .non
  | _, _, .bl b => .bl b
  | _, _, .int i => .int i
  | _, _, .str x => .str x
  | _, _, .tup h r => .tup (h.mv m) (Reps.mv m r)
  | _, _, .lst h n r => .lst (m _ _ h n.2).1 ⟨n.1, (m _ _ h n.2).2⟩ (Reps.mv m r)
  | _, _, .obj h n l r => .obj (m _ _ h n.2).1 ⟨n.1, (m _ _ h n.2).2⟩ l (Reps.mv m r)
  | _, _, .cell h => .cell h
  | _, _, .fn n => .fn (T := T.hide g') n
  | _, _, .scr h => .scr (h.mv m)
theorem Reps.mv (m : Mv g g' α H H') : ∀ {vs : List V} {ds : List D}, Reps (T.hide g) K α H vs ds → Reps (T.hide g') K α H' vs ds
  | _, _, .nil => .nil
  | _, _, .cons h r => .cons (Rep.mv m h) (Reps.mv m r)
end
theorem SL.mv (m : Mv g g' α H H') {σ : L2.St} {s : SLS} (h : SL (T.hide g) K α H σ s) : SL (T.hide g') K α H' σ s :=
  ⟨h.len, fun i d e => by obtain ⟨v, q, r⟩ := h.at_ i d e; exact ⟨v, q, r.mv m⟩⟩
theorem CellOk.mv (m : Mv g g' α H H') {a : Addr} (n : a ∉ g) {c : Cell} (h : CellOk (T.hide g) K α H a c) : CellOk (T.hide g') K α H' a c := by
  cases c with
  | lst ds => obtain ⟨xs, h, r⟩ := h; exact ⟨xs, (m _ _ h n).1, r.mv m⟩
  | ob c fs => obtain ⟨dx, xs, h, e, r⟩ := h; exact ⟨dx, xs, (m _ _ h n).1, e, r.mv m⟩
  | dT kvs => obtain ⟨xs, h, e, r⟩ := h; exact ⟨xs, (m _ _ h n).1, e, r.mv m⟩
  | dK kvs => obtain ⟨xs, h, e, r⟩ := h; exact ⟨xs, (m _ _ h n).1, e, r.mv m⟩
theorem SH.mv (m : Mv g g' α H H') {hp : CH} (h : SH (T.hide g) K α H hp) (k : ∀ a ∈ g', (∃ o, H' a = some o) ∧ a ∉ α) : SH (T.hide g') K α H' hp :=
  ⟨h.nd, h.len, fun n a c h1 h2 => (h.at_ n a c h1 h2).mv m fun z => (h.hal a z).2 (List.mem_of_getElem? h1), k⟩
theorem mv_new {p : Addr} {o : HO} (e : H p = none) : Mv g (p :: g) α H (upd H p o) := fun a u h n => ⟨by rw [upd_ne (ne_of_none h e)]; exact h, fun m => by
  rcases List.mem_cons.mp m with z | z
  · rw [z, e] at h; cases h
  · exact n z⟩
theorem mv_upd {p : Addr} {o : HO} : Mv (p :: g) (p :: g) α H (upd H p o) := fun a u h n => ⟨by rw [upd_ne (fun z => n (by rw [z]; exact List.mem_cons_self))]; exact h, n⟩
theorem mv_old {p : Addr} : Mv (p :: g) g α H H := fun a u h n => ⟨h, fun m => n (List.mem_cons_of_mem _ m)⟩
end

theorem mv_ext {g g' α : List Addr} {H : Hp} (e : ∀ a ∈ g', a ∈ g ∨ H a = none) : Mv g g' α H H := fun a u h n => ⟨h, fun m => (e a m).elim n fun z => by rw [z] at h; cases h⟩

/-! ### stores into lists that change -/
def putAt (h : CH) (o i d : D) : Option CH := match o, i with
  | .cell n, .int k => (match h[n]? with
    | some (.lst ds) => (match ixN ds.length k with | some j => some (h.set n (.lst (ds.set j d))) | none => none)
    | _ => none)
  | _, _ => none
section
variable {T : Tab} {K : PySem.W.Frag} {W : WX} {α : List Addr} {H : Hp} {hp : CH}
theorem put_ok {o i v : V} {od id d : D} {h' : CH} (sh : SH T K α H hp) (ro : Rep T K α H o od) (ri : Rep T K α H i id) (rv : Rep T K α H v d) (e : putAt hp od id d = some h') {Q : Hp → Prop}
    (q : ∀ H', Tr α H α H' → SH T K α H' h' → Q H') : rSetL o i v H Q := by
  unfold putAt at e
  split at e
  · split at e
    · next ds e1 =>
      split at e
      · next j e2 =>
        cases e
        cases ri
        cases ro with
        | cell hc =>
          obtain ⟨xs, h1, h2⟩ := sh.get e1 hc
          have t : Tr α H α (upd H _ (.lst (xs.set j v))) := Tr.set hc h1
          exact ⟨_, xs, _, j, rfl, rfl, h1, by rw [h2.length]; exact e2, q _ t (sh.set hc h1 ⟨_, upd_same, (h2.set rv j).tr t⟩)⟩
      · cases e
    · cases e
  · cases e
end
theorem pg_getL {X : Cx} : PGet X (rIxL X.K) := by
  intro pins s σ H o i ov iv Q I ro ri h
  obtain ⟨p, xs, k, z, rfl, rfl, hq, he, q⟩ := h
  cases ro
  obtain ⟨t, rfl⟩ := ri
  obtain ⟨its, r, pl, hz⟩ := I.list hq
  obtain ⟨j, h1, h2, h3, h4, h5⟩ := atI_get he
  obtain ⟨w, ew, rw'⟩ := r.get h2
  have hl := r.length
  have hn := line63
  have hj : its[j]? = some w := ew
  by_cases h0 : 0 ≤ k
  · have e : k.toNat = j := by rw [seqIndex_of h0 h5] at h1; exact Option.some.inj h1
    exact wpAny_getItem_list pl.isList h0 (by omega) (by rw [e]; simpa using hj) ⟨z, H, I, rw', q⟩
  · have e : (k + (its.toArray.size : Int)).toNat = j := by
      rw [seqIndex_neg (by omega) h4] at h1
      rw [List.size_toArray, ← hl]
      exact Option.some.inj h1
    exact wpAny_getItem_list_neg pl.isList (by omega) (by rw [List.size_toArray]; omega) (by omega) (by rw [e]; simpa using hj) ⟨z, H, I, rw', q⟩
def sPut (me mx mi : ME) : MS := fun s h => (me s h).bindS s fun d h1 => (mx s h1).bindS s fun o h2 => (mi s h2).bindS s fun i h3 => match putAt h3 o i d with | some h4 => .nx s h4 | none => .no
def ixL (h : CH) (x y : D) : Option D := match y with
  | .int i => (match lsOf h x with | some ds => atI ds i | none => none)
  | _ => none
def sAugAt (f : F2) (mx mi me : ME) : MS := fun s h => (mx s h).bindS s fun o h1 => (mi s h1).bindS s fun i h2 => match ixL h2 o i with
  | none => .no
  | some x => (me s h2).bindS s fun y h3 => match f h3 x y with
    | none => .no
    | some z => (match putAt h3 o i z with | some h4 => .nx s h4 | none => .no)
section
variable {T : Tab} {W : WX} {X : Cx} {pos tpos : Pos} {o i e : Expr} {mx mi me : ME}
theorem ss_put (hx : SE T W X o mx) (hi : SE T W X i mi) (he : SE T W X e me) (hs : swapsWithSole [.Subscript o i tpos] e pos.line X.env = pure false := by rfl) (hw : swappedStores [.Subscript o i tpos] e X.env = pure none := by rfl)
    (h1 : (assignEach [.Subscript o i tpos] X.env).map (·.2) = [assign (.Subscript o i tpos) X.env] := by rfl)
    (ha : ∀ v, assign (.Subscript o i tpos) X.env v = assign (.Subscript o i tpos) X.env v := by intro _; rfl) (hpg : ∀ {to ti : TE} {t : TSet}, PE X o to → PE X i ti → PSet X t → PG X (.Subscript o i tpos) (gSub to ti t) := by intro _ _ _ a b c; exact pg_sub a b c) : SS T W X (.Assign [.Subscript o i tpos] e pos) (sPut me mx mi) := by
  obtain ⟨tx, px, sx⟩ := hx
  obtain ⟨ti, pi, si⟩ := hi
  obtain ⟨te, pe, se⟩ := he
  refine ⟨_, ps_asg pe (hpg px pi set_list) hs hw h1, fun g α σ H s h sh sl D po => ?_⟩
  refine se.runS sh sl po fun v d α1 H1 h1 t1 sh1 sl1 r1 po1 => ?_
  refine sx.runS sh1 sl1 po1 fun ov od α2 H2 h2 t2 sh2 sl2 r2 po2 => ?_
  refine si.runS sh2 sl2 po2 fun iv id α3 H3 h3 t3 sh3 sl3 r3 po3 => ?_
  split at po3
  · next h4 e4 => exact put_ok sh3 (r2.tr t3) r3 ((r1.tr t2).tr t3) e4 fun H' t sh' => po3 σ H' α3 t sh' (sl3.tr t)
  · exact po3.elim
theorem ss_augAt {op : Operator} {r : TIp} {f : F2} (hp : PIp X op r) (hr : SndR T X.K r f) (hx : SE T W X o mx) (hi : SE T W X i mi) (he : SE T W X e me)
    (ha : ∀ ov iv new, augStore i ov iv new = (do holding [new, ov, iv] (setItem ov iv new); release [new, ov, iv] []; pure .next) := by intros; rfl) : SS T W X (.AugAssign (.Subscript o i tpos) op e pos) (sAugAt f mx mi me) := by
  obtain ⟨tx, px, sx⟩ := hx
  obtain ⟨ti, pi, si⟩ := hi
  obtain ⟨te, pe, se⟩ := he
  refine ⟨_, ps_augS px pi pg_getL pe hp set_list ha, fun g α σ H s h sh sl D po => ?_⟩
  refine sx.runS sh sl po fun ov od α2 H2 h2 t2 sh2 sl2 r2 po2 => ?_
  refine si.runS sh2 sl2 po2 fun iv id α3 H3 h3 t3 sh3 sl3 r3 po3 => ?_
  split at po3
  · exact po3.elim
  · next x ex =>
    unfold ixL at ex
    split at ex
    · cases r3
      split at ex
      · next ds e1 =>
        obtain ⟨a, xs, rfl, hsq, rr⟩ := (r2.tr t3).lsOf sh3 e1
        obtain ⟨xv, e2, rx⟩ := rr.atI ex
        refine ⟨a, xs, _, xv, rfl, rfl, hsq, e2, ?_⟩
        refine se.runS sh3 sl3 po3 fun yv y α4 H4 h4 t4 sh4 sl4 r4 po4 => ?_
        split at po4
        · exact po4.elim
        · next z ez =>
          refine hr g α4 H4 h4 xv yv _ _ z sh4 (rx.tr t4) r4 ez _ fun zv H5 t5 sh5 r5 => ?_
          split at po4
          · next h5 e5 => exact put_ok sh5 (((r2.tr t3).tr t4).tr t5) (.int _) r5 e5 fun H' t sh' => po4 σ H' α4 (t5.trans t) sh' ((sl4.tr t5).tr t)
          · exact po4.elim
      · cases ex
    · cases ex
theorem ss_augAtAdd (hx : SE T W X o mx) (hi : SE T W X i mi) (he : SE T W X e me) (ha : ∀ ov iv new, augStore i ov iv new = (do holding [new, ov, iv] (setItem ov iv new); release [new, ov, iv] []; pure .next) := by intros; rfl) :
    SS T W X (.AugAssign (.Subscript o i tpos) .Add e pos) (sAugAt (fInt fun i j => some (.int (i + j))) mx mi me) := ss_augAt ip_add sip_add hx hi he ha
theorem ss_augAtSub (hx : SE T W X o mx) (hi : SE T W X i mi) (he : SE T W X e me) (ha : ∀ ov iv new, augStore i ov iv new = (do holding [new, ov, iv] (setItem ov iv new); release [new, ov, iv] []; pure .next) := by intros; rfl) :
    SS T W X (.AugAssign (.Subscript o i tpos) .Sub e pos) (sAugAt (fInt fun i j => some (.int (i - j))) mx mi me) := ss_augAt ip_sub sip_sub hx hi he ha
end

/-! ### append, pop -/
def isLst (h : CH) : D → Bool
  | .cell n => match h[n]? with | some (.lst _) => true | _ => false
  | _ => false
def appAt (h : CH) (o d : D) : Option CH := match o with
  | .cell n => (match h[n]? with | some (.lst ds) => if ds.length < sizeLine then some (h.set n (.lst (ds ++ [d]))) else none | _ => none)
  | _ => none
def mApp (mx me : ME) : ME := fun s h => (mx s h).bind fun o h1 => if isLst h1 o = true then (me s h1).bind fun d h2 => (match appAt h2 o d with | some h3 => .ok .non h3 | none => .no) else .no
def popAt (h : CH) (o : D) : Option (D × CH) := match o with
  | .cell n => (match h[n]? with | some (.lst ds) => (match ds[ds.length - 1]? with | some d => some (d, h.set n (.lst ds.dropLast)) | none => none) | _ => none)
  | _ => none
def mPop (mx : ME) : ME := fun s h => (mx s h).bind fun o h1 => match popAt h1 o with | some (d, h2) => .ok d h2 | none => .no
theorem Reps.dropLast {T : Tab} {K : PySem.W.Frag} {α : List Addr} {H : Hp} {vs : List V} {ds : List D} (r : Reps T K α H vs ds) : Reps T K α H vs.dropLast ds.dropLast := by
  rw [List.dropLast_eq_take, List.dropLast_eq_take, r.length]
  exact r.take _
theorem Rep.isLst {T : Tab} {K : PySem.W.Frag} {α : List Addr} {H : Hp} {hp : CH} {v : V} {d : D} (r : Rep T K α H v d) (sh : SH T K α H hp) (e : isLst hp d = true) : ∃ a n xs, v = .ref a ∧ d = .cell n ∧ H a = some (.lst xs) := by
  cases d with
  | cell n =>
    cases r with
    | cell hc =>
      unfold Py.isLst at e
      simp only at e
      split at e
      · next ds e1 =>
        obtain ⟨xs, h1, _⟩ := sh.get e1 hc
        exact ⟨_, n, xs, rfl, rfl, h1⟩
      · cases e
  | _ => cases e
section
variable {T : Tab} {W : WX} {X : Cx} {apos cpos : Pos} {o e : Expr} {mx me : ME}
theorem se_app (hx : SE T W X o mx) (he : SE T W X e me) (hb : attributeBase o "append" X.env (eval o X.env) = eval o X.env := by rfl)
    (hf : ((backTo cpos (starEach [e] X.env)).all (fun x => !x.1) && (backToKw cpos (keywordEach [] X.env)).all (fun x => x.1.isSome) && decide (([e] : List Expr).length + ([] : List Keyword).length + (if ([] : List Keyword).isEmpty then 0 else 1) < 30)) = true := by rfl)
    (hl : (apos.endLine == cpos.line) = true := by rfl) (hs : starEach [e] X.env = (false, eval e X.env) :: starEach [] X.env := by rfl) (hp : (backTo cpos (starEach [] X.env)).any (·.1) = false := by rfl) :
    SE T W X (.Call (.Attribute o "append" apos) [e] [] cpos) (mApp mx me) := by
  obtain ⟨tx, px, sx⟩ := hx
  obtain ⟨te, pe, se⟩ := he
  refine ⟨_, pe_bm PySem.F.plainAttrs_list PySem.F.slot_list_append PySem.F.type_list_append mt_append px (pa_cons pe pa_nil hs) hb hf hl hs hp, fun g α σ H s h sh sl Q po => ?_⟩
  refine sx.run sh sl po fun ov od α1 H1 h1 t1 sh1 sl1 r1 po1 => ?_
  split at po1
  · next hi =>
    obtain ⟨a, n, xs, rfl, rfl, hx⟩ := r1.isLst sh1 hi
    refine ⟨.inl ⟨rfl, xs, SqL.of hx⟩, ?_⟩
    refine se.run sh1 sl1 po1 fun v d α2 H2 h2 t2 sh2 sl2 r2 po2 => ?_
    split at po2
    · next h3 e3 =>
      unfold appAt at e3
      simp only at e3
      split at e3
      · next ds e4 =>
        split at e3
        · next hz =>
          cases e3
          have rc := r1.tr t2
          cases rc with
          | cell hc =>
            obtain ⟨ys, h3, h4⟩ := sh2.get e4 hc
            have t : Tr α2 H2 α2 (upd H2 a (.lst (ys ++ [v]))) := Tr.set hc h3
            exact ⟨a, ys, v, rfl, rfl, h3, by rw [h4.length]; exact hz, po2 _ _ α2 t (sh2.set hc h3 ⟨_, upd_same, (h4.append (.cons r2 .nil)).tr t⟩) .non⟩
        · cases e3
      · cases e3
    · exact po2.elim
  · exact po1.elim
theorem se_pop (hx : SE T W X o mx) (hb : attributeBase o "pop" X.env (eval o X.env) = eval o X.env := by rfl) (hl : (apos.endLine == cpos.line) = true := by rfl) : SE T W X (.Call (.Attribute o "pop" apos) [] [] cpos) (mPop mx) := by
  obtain ⟨tx, px, sx⟩ := hx
  refine ⟨_, pe_bm0 PySem.F.plainAttrs_list PySem.F.slot_list_pop PySem.F.type_list_pop mt_pop px hb hl, fun g α σ H s h sh sl Q po => ?_⟩
  refine sx.run sh sl po fun ov od α1 H1 h1 t1 sh1 sl1 r1 po1 => ?_
  split at po1
  · next d h2 e =>
    unfold popAt at e
    split at e
    · next n =>
      split at e
      · next ds e1 =>
        split at e
        · next d' e2 =>
          cases e
          cases r1 with
          | cell hc =>
            obtain ⟨ys, h3, h4⟩ := sh1.get e1 hc
            obtain ⟨y, e3, r3⟩ := h4.get e2
            have t : Tr α1 H1 α1 (upd H1 _ (.lst ys.dropLast)) := Tr.set hc h3
            refine ⟨.inl ⟨rfl, ys, SqL.of h3⟩, _, ys, y, rfl, rfl, h3, by rw [h4.length]; exact e3, ?_⟩
            exact po1 _ _ α1 t (sh1.set hc h3 ⟨_, upd_same, h4.dropLast.tr t⟩) (r3.tr t)
        · cases e
      · cases e
    · cases e
  · exact po1.elim
end

/-! ### what a loop walks -/
inductive Src where
  | fix (ds : List D)
  | live (n : Nat)
  | zip (a b : Src)
  | enum (a : Src)
def pairs : Nat → List D → List D
  | _, [] => []
  | i, d :: ds => .tup [.int i, d] :: pairs (i + 1) ds
def zipD : List D → List D → List D
  | x :: xs, y :: ys => .tup [x, y] :: zipD xs ys
  | _, _ => []
/-- the items as they stand -/
def Src.items (h : CH) : Src → Option (List D)
  | .fix ds => some ds
  | .live n => lstOf h (.cell n)
  | .zip a b => match a.items h, b.items h with | some xs, some ys => some (zipD xs ys) | _, _ => none
  | .enum a => (a.items h).map (pairs 0)
inductive RSrc where
  | ok (x : Src) (h : CH)
  | ex (c : Nat) (fs : Xfs) (h : CH)
  | no
abbrev MSrc := SLS → CH → RSrc
/-- the iterator yields what is told, as long as the state goes on from here -/
def JOk (T : Tab) (K : PySem.W.Frag) (α : List Addr) (H : Hp) (J : It) (x : Src) : Prop := ∀ g', (∀ a ∈ g', a ∈ T.hid ∨ H a = none) → ∀ α' H' h, Tr α H α' H' → SH (T.hide g') K α' H' h → ∀ (i : Nat) (l : List D), x.items h = some l →
  (∀ d, l[i]? = some d → J.go i H' ∧ ∀ v H'', J.yld i H' v H'' → Tr α' H' α' H'' ∧ SH (T.hide g') K α' H'' h ∧ Rep (T.hide g') K α' H'' v d) ∧ (l.length = i → J.stop i H')
def PoI (T : Tab) (K : PySem.W.Frag) (α : List Addr) (σ : L2.St) (H : Hp) (R : It → Hp → Prop) (W : WX) : RSrc → Prop
  | .ok x h => ∀ J H' α', Tr α H α' H' → SH T K α' H' h → JOk T K α' H' J x → R J H'
  | .ex c fs h => ∀ cls dx H' α', Tr α H α' H' → SH T K α' H' h → XRep T K α' H' cls dx c fs → W cls dx σ H'
  | .no => False
def SndI (T : Tab) (K : PySem.W.Frag) (W : WX) (wi : TI) (m : MSrc) : Prop := ∀ g α σ H s h, SH (T.hide g) K α H h → SL (T.hide g) K α H σ s → ∀ R, PoI (T.hide g) K α σ H R W (m s h) → wi σ H R
def SI (T : Tab) (W : WX) (X : Cx) (tg iter : Expr) (m : MSrc) : Prop := ∃ wi, PI X tg iter wi ∧ SndI T X.K W wi m
def RSrc.bindS (r : RSrc) (s : SLS) (k : Src → CH → RS) : RS := match r with | .ok x h => k x h | .ex c fs h => .ex c fs s h | .no => .no
def RSrc.bind (r : RSrc) (k : Src → CH → RE) : RE := match r with | .ok x h => k x h | .ex c fs h => .ex c fs h | .no => .no
/-- k turns from the i-th on -/
def forK (x : Src) (body : D → MS) : Nat → Nat → MS
  | 0, i => fun s h => match x.items h with | some l => if l.length = i then .nx s h else .no | none => .no
  | k + 1, i => fun s h => match x.items h with
    | some l => (match l[i]? with
      | some d => (match body d s h with
        | .nx s' h' => forK x body k (i + 1) s' h'
        | .ct s' h' => forK x body k (i + 1) s' h'
        | .bk s' h' => .nx s' h'
        | r => r)
      | none => .no)
    | none => .no
def sFor (mi : MSrc) (g : MG) (mb : MS) : MS := fun s h => (mi s h).bindS s fun x h1 => match x.items h1 with
  | some l => forK x (fun d s h => match g d s with | some s' => mb s' h | none => .no) l.length 0 s h1
  | none => .no
section
variable {T : Tab} {W : WX} {X : Cx} {pos : Pos} {tg iter : Expr} {body : List Stmt} {mi : MSrc} {gm : MG} {mb : MS}
theorem ss_for (hp : PassesOwn (model X.prog X.w) X.A X.env X.xe) (hc : X.calm = true) (hi : SI T W X tg iter mi) (hg : SG T X tg gm) (hb : SSs T W X body mb)
    (hs : ∀ x, foldedSetIterable iter X.env x = pure x := by intro _; rfl) : SS T W X (.For tg iter body [] pos) (sFor mi gm mb) := by
  obtain ⟨wi, pi, si⟩ := hi
  obtain ⟨tg', pg, sg⟩ := hg
  obtain ⟨tb, pb, sb⟩ := hb
  refine ⟨_, ps_for hp hc pi pg pb hs, fun g α σ H s h sh sl D po => ?_⟩
  refine si g α σ H s h sh sl _ ?_
  unfold sFor at po
  generalize mi s h = o at po
  cases o with
  | no => exact po
  | ex c fs h1 => exact fun cls dx H2 α2 t sh2 x => po cls dx σ H2 α2 t sh2 (sl.tr t) x
  | ok x h1 =>
    intro J H1 α1 t1 sh1 jok
    have po1 := PoS.tr t1 po
    simp only [RSrc.bindS] at po1
    split at po1
    · next l el =>
      refine ⟨fun i m σ' H' => ∃ α' s' h', Tr α1 H1 α' H' ∧ SH (T.hide g) X.K α' H' h' ∧ SL (T.hide g) X.K α' H' σ' s' ∧ PoS (T.hide g) X.K α' H' D W (forK x (fun d s h => match gm d s with | some s' => mb s' h | none => .no) m i s' h'),
        ⟨l.length, α1, s, h1, Tr.refl _ _, sh1, sl.tr t1, po1⟩, ?_⟩
      rintro i m σ' H' ⟨α', s', h', t', sh', sl', po'⟩
      cases m with
      | zero =>
        unfold forK at po'
        split at po'
        · next l' e' =>
          split at po'
          · next hl => exact .inl ⟨(jok g (fun _ m => .inl m) α' H' h' t' sh' i l' e').2 hl, po' σ' H' α' (Tr.refl _ _) sh' sl'⟩
          · exact po'.elim
        · exact po'.elim
      | succ m =>
        unfold forK at po'
        split at po'
        · next l' e' =>
          split at po'
          · next d ed =>
            obtain ⟨go, yl⟩ := (jok g (fun _ m => .inl m) α' H' h' t' sh' i l' e').1 d ed
            refine .inr ⟨go, fun σ2 H2 => ∃ α2 s2 h2, Tr α1 H1 α2 H2 ∧ SH (T.hide g) X.K α2 H2 h2 ∧ SL (T.hide g) X.K α2 H2 σ2 s2 ∧ PoS (T.hide g) X.K α2 H2 D W (forK x (fun d s h => match gm d s with | some s' => mb s' h | none => .no) m (i + 1) s2 h2),
              fun σ2 H2 q => ⟨m, Nat.lt_succ_self _, q⟩, fun v H2 y => ?_⟩
            obtain ⟨t2, sh2, r2⟩ := yl v H2 y
            refine sg g α' σ' H2 s' v d (sl'.tr t2) r2 _ ?_
            have po2 := PoS.tr t2 po'
            generalize hgd : gm d s' = og at po2
            cases og with
            | none => exact po2
            | some s3 =>
              intro σ3 sl3
              refine sb g α' σ3 H2 s3 h' sh2 sl3 _ ?_
              simp only at po2
              generalize mb s3 h' = ob at po2
              cases ob with
              | nx s4 h4 => exact fun σ4 H4 α4 t4 sh4 sl4 => ⟨α4, s4, h4, (t'.trans t2).trans t4, sh4, sl4, PoS.tr t4 po2⟩
              | ct s4 h4 => exact fun σ4 H4 α4 t4 sh4 sl4 => ⟨α4, s4, h4, (t'.trans t2).trans t4, sh4, sl4, PoS.tr t4 po2⟩
              | bk s4 h4 => exact po2
              | rt d4 h4 => exact po2
              | ex c fs s4 h4 => exact po2
              | no => exact po2
          · exact po'.elim
        · exact po'.elim
    · exact po1.elim
end

/-! ### while: so many turns at most -/
def whileK (c : ME) (mb : MS) : Nat → MS
  | 0 => fun _ _ => .no
  | k + 1 => fun s h => (c s h).bindS s fun d h1 => match d with
    | .bl true => (match mb s h1 with
      | .nx s' h' => whileK c mb k s' h'
      | .ct s' h' => whileK c mb k s' h'
      | .bk s' h' => .nx s' h'
      | r => r)
    | .bl false => .nx s h1
    | _ => .no
/-- n tells a bound of the turns by the state ahead -/
def sWhile (n : SLS → CH → Nat) (c : ME) (mb : MS) : MS := fun s h => whileK c mb (n s h) s h
section
variable {T : Tab} {W : WX} {X : Cx} {pos : Pos} {e : Expr} {body : List Stmt} {mc : ME} {mb : MS}
theorem ss_while (n : SLS → CH → Nat) (hp : PassesOwn (model X.prog X.w) X.A X.env X.xe) (hc : ST T W X e mc) (hb : SSs T W X body mb) : SS T W X (.While e body [] pos) (sWhile n mc mb) := by
  obtain ⟨tc, pc, sc⟩ := hc
  obtain ⟨tb, pb, sb⟩ := hb
  refine ⟨_, ps_while hp pc pb, fun g α σ H s h sh sl D po => ?_⟩
  refine ⟨fun m σ' H' => ∃ α' s' h', SH (T.hide g) X.K α' H' h' ∧ SL (T.hide g) X.K α' H' σ' s' ∧ PoS (T.hide g) X.K α' H' D W (whileK mc mb m s' h'), ⟨n s h, α, s, h, sh, sl, po⟩, ?_⟩
  rintro m σ' H' ⟨α', s', h', sh', sl', po'⟩
  cases m with
  | zero => exact po'.elim
  | succ m =>
    unfold whileK at po'
    refine sc.runS sh' sl' po' (fun d h hb => by cases d with | bl b => exact absurd rfl (hb b) | _ => rfl) fun b α1 H1 h1 t1 sh1 sl1 po1 => ?_
    cases b with
    | false => rw [if_neg Bool.false_ne_true]; exact po1 σ' H1 α1 (Tr.refl _ _) sh1 sl1
    | true =>
      rw [if_pos rfl]
      refine ⟨fun σ2 H2 => ∃ α2 s2 h2, SH (T.hide g) X.K α2 H2 h2 ∧ SL (T.hide g) X.K α2 H2 σ2 s2 ∧ PoS (T.hide g) X.K α2 H2 D W (whileK mc mb m s2 h2), fun σ2 H2 q => ⟨m, Nat.lt_succ_self _, q⟩, ?_⟩
      refine sb g α1 σ' H1 s' h1 sh1 sl1 _ ?_
      simp only at po1
      generalize mb s' h1 = ob at po1
      cases ob with
      | nx s4 h4 => exact fun σ4 H4 α4 t4 sh4 sl4 => ⟨α4, s4, h4, sh4, sl4, PoS.tr t4 po1⟩
      | ct s4 h4 => exact fun σ4 H4 α4 t4 sh4 sl4 => ⟨α4, s4, h4, sh4, sl4, PoS.tr t4 po1⟩
      | bk s4 h4 => exact po1
      | rt d4 h4 => exact po1
      | ex c fs s4 h4 => exact po1
      | no => exact po1
end
end Py

set_option Elab.async false
set_option linter.all false
set_option maxRecDepth 100000
namespace Py
open PySem PySem.Spec PyProof.Rows L2

/-! ### iterators over lists and tuples alike -/
def SqB (b : Bool) (K : PySem.W.Frag) (H : Hp) (a : Addr) (xs : List V) : Prop := match b with | true => SqT K H a xs | false => SqL K H a xs
def KIt (b : Bool) (h : Heap) (it a : Addr) (i : Nat) : Prop := match b with | true => h.IsTupleIter it a i | false => h.IsListIter it a i
def KSq (b : Bool) (h : Heap) (a : Addr) (xs : Array Value) : Prop := match b with | true => h.IsTuple a xs | false => h.IsList a xs
def itObj (b : Bool) (a : Addr) : Obj := match b with
  | true => { cls := .type "tuple_iterator", data := .fields #[.ref a, .int 0 0] }
  | false => { cls := .type "list_iterator", data := .fields #[.ref a, .int 0 0] }
theorem begB (b : Bool) (a : Addr) (xs : Array Value) : Begins (.ref a) (itObj b a) (fun h => KSq b h a xs) := by
  cases b
  · exact begins_list a xs
  · exact begins_tuple a xs
theorem drawB {prog : Program} {w : World} {A : Around} (b : Bool) (hh : A.handled = none) (it a : Addr) (hne : a ≠ it) (xs : Array Value) :
    Draws prog w A it [it, a] xs.size (fun i v => xs[i]? = some v) (fun i h => KIt b h it a i ∧ KSq b h a xs) := by
  cases b
  · exact Draws.list hh it a hne xs
  · exact Draws.tuple hh it a hne xs
theorem KIt.obj {b : Bool} {h : Heap} {it a : Addr} {i : Nat} (x : KIt b h it a i) : ∃ o, h.get? it = some o ∧ ∀ v, o.data ≠ .cell v := by
  cases b
  · obtain ⟨o, e, _, d⟩ := x; exact ⟨o, e, fun v z => by rw [d] at z; cases z⟩
  · obtain ⟨o, e, _, d⟩ := x; exact ⟨o, e, fun v z => by rw [d] at z; cases z⟩
theorem KIt.keep {b : Bool} {h h' : Heap} {it a : Addr} {i : Nat} (x : KIt b h it a i) (k : ∀ o, h.get? it = some o → h'.get? it = some o) : KIt b h' it a i := by
  cases b
  · exact Heap.IsListIter.at x fun o e => k o e
  · exact Heap.IsTupleIter.at x fun o e => k o e
theorem KIt.new {b : Bool} {h : Heap} {it a : Addr} (x : h.get? it = some (itObj b a)) : KIt b h it a 0 := by
  cases b
  · exact ⟨_, x, rfl, rfl⟩
  · exact ⟨_, x, rfl, rfl⟩
section
variable {X : Cx} {pins : List (Addr × Obj)} {σ : L2.St} {H : Hp} {s : Shared}
theorem invB (I : Inv X pins σ H s) {b : Bool} {a : Addr} {xs : List V} (h : SqB b X.K H a xs) : ∃ its : List Value, Vals xs its ∧ KSq b s.heap a its.toArray ∧ a < s.heap.objs.size := by
  cases b
  · obtain ⟨its, r, p, _⟩ := I.list h; exact ⟨its, r, p.isList, p.lt⟩
  · obtain ⟨its, r, p, _⟩ := I.tuple h
    exact ⟨its, r, p, by obtain ⟨o, e, _⟩ := p; exact Heap.lt_size e⟩
theorem injB (I : Inv X pins σ H s) {b : Bool} {a : Addr} {xs ys : List V} (h : SqB b X.K H a xs) (h' : SqB b X.K H a ys) : xs = ys := by
  cases b
  · exact I.list_inj h h'
  · exact I.tuple_inj h h'
end
/-- enumerate(x): each item in a new pair -/
def ItE (b : Bool) (K : PySem.W.Frag) (a : Addr) : It :=
  ⟨fun i H => ∃ (xs : List V) (x : V), SqB b K H a xs ∧ xs[i]? = some x, fun i H v H' => ∃ T x, v = .ref T ∧ H T = none ∧ H' = upd H T (.tup [.int (i : Nat), x]) ∧ ∀ xs, SqB b K H a xs → xs[i]? = some x,
    fun i H => ∃ xs : List V, SqB b K H a xs ∧ xs.length = i⟩
theorem turnE {P : Program} {w : World} {K : PySem.W.Frag} {elts : List Expr} {kk : Nat} {tpos : Pos} (b : Bool) (a e it : Addr) :
    Turn P w K (.Tuple elts kk tpos) (ItE b K a) [e, it] e (fun i h => (∃ old, IsEnum h e it ((i : Nat) : Int) old) ∧ KIt b h it a i ∧ e ≠ it ∧ e ≠ a ∧ a ≠ it) where
  mem := by simp
  obj := fun i h st c hc => by
    obtain ⟨⟨old, he⟩, hi, _⟩ := st
    rcases List.mem_cons.mp hc with z | z
    · subst z; exact ⟨_, he, fun v q => nomatch q⟩
    · simp at z; subst z; exact hi.obj
  keep := fun i h h' st k => by
    obtain ⟨⟨old, he⟩, hi, r⟩ := st
    exact ⟨⟨old, k e (by simp) _ he⟩, hi.keep fun o q => k it (by simp) o q, r⟩
  item := by
    intro X hP hw hK hc i pins s σ H E I hf st hg
    subst hP hw hK
    obtain ⟨⟨old, he⟩, hit, n1, n2, n3⟩ := st
    obtain ⟨xs, x, hq, hx⟩ := hg
    obtain ⟨its, rv, ks, la⟩ := invB I hq
    obtain ⟨u, hu, ru⟩ := rv.get hx
    have hel : e < s.heap.objs.size := Heap.lt_size he
    have hil : it < s.heap.objs.size := by obtain ⟨o, q, _⟩ := hit.obj; exact Heap.lt_size q
    have D := drawB (prog := X.prog) (w := X.w) (A := X.A.in1) b (I.ok.hd hc) it a n3 its.toArray
    have hlt : i < its.toArray.size := by rw [List.size_toArray]; exact (List.getElem?_eq_some_iff.mp hu).1
    refine wpAny_pyNext_enum_itemD D he ⟨hit, ks⟩ hlt n1 (by simp; exact ⟨n1, n2⟩) fun y h1 tk hy ho hst hT hsz hk => ?_
    have ey : y = u := by simpa [hu] using hy.symm
    subst ey
    refine ⟨_, rfl, wpAny_letOwnedTupleGo_enum (s := { s with heap := h1, toks := tk + 1 }) ho fun h2 he' sb => ?_⟩
    have hT2 : h2.get? s.heap.objs.size = some { cls := .type "tuple", data := .seq #[.int i tk, y] } := (sb.2 _ (Nat.ne_of_gt hel)).trans hT
    have new : ObjOk X.prog X.w (upd H s.heap.objs.size (.tup [.int (i : Nat), x])) h2 s.heap.objs.size (.tup [.int (i : Nat), x]) :=
      ⟨by show 2 ≤ sizeLine; decide, [.int i tk, y], .cons ⟨_, rfl⟩ (.cons ru .nil), ⟨_, hT2, rfl, _, rfl⟩⟩
    have I1 : Inv X pins σ (upd H s.heap.objs.size (.tup [.int (i : Nat), x])) { s with heap := h2, toks := tk + 1 } :=
      I.turnedNew (ch := [e, it]) (fun c o hb q => (sb.2 c (fun z => hb (by simp [z]))).trans (hk c o (fun z => hb (by simp [z])) (fun z => hb (by simp [z])) q)) hf (Nat.le_refl _) new
    refine ⟨.ref s.heap.objs.size, _, I1, rfl, ⟨_, x, rfl, I.hok.fresh (Nat.le_refl _), rfl, fun ys hy => by rw [injB I hy hq]; exact hx⟩, ⟨⟨y, ?_⟩, hst.1.keep fun o q => (sb.2 it (Ne.symm n1)).trans q, n1, n2, n3⟩, fun c hc => ?_⟩
    · have z : ((i + 1 : Nat) : Int) = (i : Int) + 1 := by omega
      rw [z]; exact he'
    · have hlt' : c < s.heap.objs.size := by
        rcases List.mem_cons.mp hc with z | z
        · subst z; exact hel
        · simp at z; subst z; exact hil
      rw [upd_ne (Nat.ne_of_lt hlt')]
      exact (hf c hc).1
  done := by
    intro X hP hw hK hc i pins s σ H E I hf st hg
    subst hP hw hK
    obtain ⟨⟨old, he⟩, hit, n1, n2, n3⟩ := st
    obtain ⟨xs, hq, hx⟩ := hg
    obtain ⟨its, rv, ks, la⟩ := invB I hq
    have D := drawB (prog := X.prog) (w := X.w) (A := X.A.in1) b (I.ok.hd hc) it a n3 its.toArray
    have hn : its.toArray.size = i := by rw [List.size_toArray, ← rv.length, hx]
    obtain ⟨f0, f1, f2, f3, f4, f5⟩ := hf it (by simp)
    exact wpAny_pyNext_enum_endD D he (by rw [hn]; exact ⟨hit, ks⟩) fun h' eb => ⟨rfl, I.turned (t' := s.toks) (fun c o hb q => eb c o hb q) f0 f1 f3 f4 f5⟩
  self := fun A i s Q E st h => by
    obtain ⟨⟨_, he⟩, _⟩ := st
    exact wpAny_pyIter_enum he h

set_option maxHeartbeats 1000000 in
theorem meetsE {v : Value} {o : Obj} {H : Heap → Prop} (B : Begins v o H) :
    Meets (Builtin.«enumerate.__new__» ⟨[.type "enumerate", v], []⟩) (fun _ R s => H s.heap ∧
      R (.ok (.ret (.ref (s.heap.push o).objs.size))) { s with heap := (s.heap.push o).push { cls := .type "enumerate", data := .fields #[.none, .bool false, .ref s.heap.objs.size, rawInt 0, .none, .none] } }) :=
  .of_wp fun prog w A R s h => by
    obtain ⟨hp, g, d, tk, os⟩ := s
    obtain ⟨h1, h⟩ := h
    have hsub := sub_enumerate
    have q1 : ∀ {A' : Around} {E : Value → Shared → Prop} {Q : Value → Shared → Prop}, Q (.ref hp.objs.size) ⟨hp.push o, g, d, tk, os⟩ → wpAny (model prog w) A' (pyIter v) Q E ⟨hp, g, d, tk, os⟩ :=
      fun q => B.iter prog w _ _ ⟨hp, g, d, tk, os⟩ _ h1 q
    wp_walk using q1
    refine wpAny_stack_any fun st => wpAny_pure ?_
    split
    · next c _ _ _ _ _ =>
      cases c == Value.type "enumerate" <;> (wp_walk using q1; exact ⟨_, rfl, h⟩)
    · wp_walk using q1
      exact ⟨_, rfl, h⟩
end Py

set_option Elab.async false
set_option linter.all false
set_option maxRecDepth 100000
namespace Py
open PySem PySem.Spec PyProof.Rows L2
section
variable {prog : Program} {w : World} {A : Around} {E : Value → Shared → Prop} {s : Shared}
theorem callE {v : Value} {o : Obj} {H : Heap → Prop} {Q : Value → Shared → Prop} (B : Begins v o H) (h1 : H s.heap)
    (h : ∀ h', IsEnum h' (s.heap.objs.size + 1) s.heap.objs.size 0 .none → h'.get? s.heap.objs.size = some o → (∀ b u, s.heap.get? b = some u → h'.get? b = some u) → Q (.ref (s.heap.objs.size + 1)) { s with heap := h' }) :
    wpAny (model prog w) A (call (.type "enumerate") [v]) Q E s := by
  refine callType_new F.called_enumerate (by decide) (F.typeCall_enumerate_1 _) (F.newCall_enumerate_1 _) (fun obj => F.args_object_init_2 obj _) F.entry_enumerate_new (meetsE B) ⟨h1, ?_⟩
  have hz : (s.heap.push o).objs.size = s.heap.objs.size + 1 := Heap.size_push ..
  show _ ∧ _
  rw [hz]
  have he : IsEnum ((s.heap.push o).push { cls := .type "enumerate", data := .fields #[.none, .bool false, .ref s.heap.objs.size, rawInt 0, .none, .none] }) (s.heap.objs.size + 1) s.heap.objs.size 0 .none := by
    have q := Heap.get?_push_size (s.heap.push o) (o := { cls := .type "enumerate", data := .fields #[.none, .bool false, .ref s.heap.objs.size, rawInt 0, .none, .none] }) rfl
    rw [hz] at q
    exact q
  exact ⟨⟨_, he, rfl⟩, h _ he (Heap.get?_push_of_some _ (Heap.get?_push_size _ B.free)) fun b u x => Heap.get?_push_of_some _ (Heap.get?_push_of_some _ x)⟩
end
theorem nb1 {n a k : Nat} (h : a < n) : n + k ≠ a := by omega
theorem nb2 {n j k : Nat} (h : j ≠ k) : n + j ≠ n + k := by omega
theorem nb3 {n k : Nat} (h : k ≠ 0) : n + k ≠ n := by omega
theorem sepZ (n a1 a2 : Nat) (l1 : a1 < n) (l2 : a2 < n) : ZipSep2 (n + 4) (n + 2) (n + 3) n (n + 1) [n, a1] [n + 1, a2] where
  TIz := nb2 (by decide)
  TOz := nb2 (by decide)
  TITO := nb2 (by decide)
  TIi1 := nb3 (by decide)
  mem1 := List.mem_cons_self
  zf1 := fun m => (List.mem_cons.mp m).elim (fun e => nb3 (by decide) e) fun m => (nb1 l1 (List.mem_singleton.mp m) : False)
  Tf1 := fun m => (List.mem_cons.mp m).elim (fun e => nb3 (by decide) e) fun m => (nb1 l1 (List.mem_singleton.mp m) : False)
  TIi2 := nb2 (by decide)
  mem2 := List.mem_cons_self
  zf2 := fun m => (List.mem_cons.mp m).elim (fun e => nb2 (by decide) e) fun m => (nb1 l2 (List.mem_singleton.mp m) : False)
  Tf2 := fun m => (List.mem_cons.mp m).elim (fun e => nb2 (by decide) e) fun m => (nb1 l2 (List.mem_singleton.mp m) : False)
  sep1_2 := fun m => (List.mem_cons.mp m).elim (fun e => nb3 (k := 1) (by decide) e.symm) fun m => (Nat.ne_of_gt l2 (List.mem_singleton.mp m) : False)
  sep2_1 := fun m => (List.mem_cons.mp m).elim (fun e => nb3 (by decide) e) fun m => (nb1 l1 (List.mem_singleton.mp m) : False)
theorem five {n d : Nat} (h : d = n + 4 ∨ d = n + 2 ∨ d = n + 3 ∨ d = n ∨ d = n + 1) : n ≤ d := by omega
theorem two {n d : Nat} (h : d = n + 1 ∨ d = n) : n ≤ d := by omega
def iEnumB (K : PySem.W.Frag) (ta : TA) : TI := fun σ H R => ta σ H fun vs H1 => ∃ b a xs, vs = [.ref a] ∧ SqB b K H1 a xs ∧ R (ItE b K a) H1
theorem pi_enumB {X : Cx} {e : Expr} {ta : TA} {p pos tpos : Pos} {elts : List Expr} {kk : Nat} (hg : Gl X "enumerate") (hm : X.mg "enumerate" = none) (ha : PA X [e] ta) (hs : starEach [e] X.env = [(false, eval e X.env)] := by rfl) :
    PI X (.Tuple elts kk tpos) (.Call (.Name "enumerate" p) [e] [] pos) (iEnumB X.K ta) := by
  refine ⟨fun pins s σ H R I h => ?_⟩
  refine Call_ (ld_blt I hg hm boot_enumerate (PyProof.Rows.callWith_type1 (thn (ha.run pos pins s σ H _ I h) fun us s1 ⟨vs, H1, I1, r1, q1⟩ => ?_) hs rfl))
  obtain ⟨b, a, xs, rfl, hq, q⟩ := q1
  rw [Vals.ref1 r1]
  obtain ⟨its, rv, ks, la⟩ := invB I1 hq
  refine callE (begB b a its.toArray) ks fun h' he hi hk => wpAny_pyIter_enum he ?_
  have I2 : Inv X pins σ H1 { s1 with heap := h' } := I1.kept (t' := s1.toks) hk
  refine ⟨s1.heap.objs.size + 1, [s1.heap.objs.size + 1, s1.heap.objs.size], _, _, H1, rfl, I2, turnE b a (s1.heap.objs.size + 1) s1.heap.objs.size, ⟨⟨.none, he⟩, KIt.new hi, Nat.succ_ne_self _, nb1 la, Nat.ne_of_lt la⟩, fun c hc => ?_, q⟩
  have hle : s1.heap.objs.size ≤ c := two (by simpa using hc)
  exact I1.fpOk hle (I1.hok.fresh hle)

/-! zip(x, y) -/
def ItZ (b c : Bool) (K : PySem.W.Frag) (a1 a2 : Addr) : It :=
  ⟨fun i H => ∃ (xs ys : List V) (x y : V), SqB b K H a1 xs ∧ SqB c K H a2 ys ∧ xs[i]? = some x ∧ ys[i]? = some y,
    fun i H v H' => ∃ T x y, v = .ref T ∧ H T = none ∧ H' = upd H T (.tup [x, y]) ∧ (∀ xs, SqB b K H a1 xs → xs[i]? = some x) ∧ ∀ ys, SqB c K H a2 ys → ys[i]? = some y,
    fun i H => ∃ xs ys : List V, SqB b K H a1 xs ∧ SqB c K H a2 ys ∧ min xs.length ys.length = i⟩
theorem turnZ {P : Program} {w : World} {K : PySem.W.Frag} {elts : List Expr} {kk : Nat} {tpos : Pos} (b c : Bool) (a1 a2 z TI TO i1 i2 : Addr) (S : ZipSep2 z TI TO i1 i2 [i1, a1] [i2, a2]) (n1 : a1 ≠ i1) (n2 : a2 ≠ i2) :
    Turn P w K (.Tuple elts kk tpos) (ItZ b c K a1 a2) [z, TI, TO, i1, i2] z (fun i h => IsZip h z TI TO .none ∧ IsTupOf2 h TI (.ref i1) (.ref i2) ∧ (∃ x y, IsTupOf2 h TO x y) ∧ KIt b h i1 a1 i ∧ KIt c h i2 a2 i) where
  mem := by simp
  obj := fun i h st d hd => by
    obtain ⟨hz, hTI, ⟨x, y, hTO⟩, k1, k2⟩ := st
    have e' : d = z ∨ d = TI ∨ d = TO ∨ d = i1 ∨ d = i2 := by simpa using hd
    rcases e' with q | q | q | q | q <;> subst q
    · exact ⟨_, hz, fun v q => nomatch q⟩
    · exact ⟨_, hTI, fun v q => nomatch q⟩
    · exact ⟨_, hTO, fun v q => nomatch q⟩
    · exact k1.obj
    · exact k2.obj
  keep := fun i h h' st k => by
    obtain ⟨hz, hTI, ⟨x, y, hTO⟩, k1, k2⟩ := st
    exact ⟨k z (by simp) _ hz, k TI (by simp) _ hTI, ⟨x, y, k TO (by simp) _ hTO⟩, k1.keep fun o q => k i1 (by simp) o q, k2.keep fun o q => k i2 (by simp) o q⟩
  item := by
    intro X hP hw hK hc i pins s σ H E I hf st hg
    subst hP hw hK
    obtain ⟨hz, hTI, ⟨x0, y0, hTO⟩, k1, k2⟩ := st
    obtain ⟨xs, ys, x, y, hqx, hqy, hx, hy⟩ := hg
    obtain ⟨its, rv, ks1, _⟩ := invB I hqx
    obtain ⟨its2, rv2, ks2, _⟩ := invB I hqy
    obtain ⟨u, hu, ru⟩ := rv.get hx
    obtain ⟨u2, hu2, ru2⟩ := rv2.get hy
    have D1 := drawB (prog := X.prog) (w := X.w) (A := X.A.in1) b (I.ok.hd hc) i1 a1 n1 its.toArray
    have D2 := drawB (prog := X.prog) (w := X.w) (A := X.A.in1) c (I.ok.hd hc) i2 a2 n2 its2.toArray
    have l1 : i < its.toArray.size := by rw [List.size_toArray]; exact (List.getElem?_eq_some_iff.mp hu).1
    have l2 : i < its2.toArray.size := by rw [List.size_toArray]; exact (List.getElem?_eq_some_iff.mp hu2).1
    have hzl : z < s.heap.objs.size := Heap.lt_size hz
    have hIl : TI < s.heap.objs.size := Heap.lt_size hTI
    have hOl : TO < s.heap.objs.size := Heap.lt_size hTO
    have h1l : i1 < s.heap.objs.size := by obtain ⟨o, q, _⟩ := k1.obj; exact Heap.lt_size q
    have h2l : i2 < s.heap.objs.size := by obtain ⟨o, q, _⟩ := k2.obj; exact Heap.lt_size q
    refine wpAny_pyNext_zipD2_item S D1 D2 hz hTI hTO ⟨k1, ks1⟩ ⟨k2, ks2⟩ l1 l2 fun v1 v2 h1 tk p1 p2 z1 o1 s1 s2 hT hsz hk => ?_
    have e1 : v1 = u := by simpa [hu] using p1.symm
    have e2 : v2 = u2 := by simpa [hu2] using p2.symm
    subst e1 e2
    refine ⟨_, rfl, wpAny_letOwnedTupleGo_zip (s := { s with heap := h1, toks := tk }) z1 fun h2 z2 sb => ?_⟩
    have hT2 : h2.get? s.heap.objs.size = some { cls := .type "tuple", data := .seq #[v1, v2] } := (sb.2 _ (Nat.ne_of_gt hzl)).trans hT
    have new : ObjOk X.prog X.w (upd H s.heap.objs.size (.tup [x, y])) h2 s.heap.objs.size (.tup [x, y]) :=
      ⟨by show 2 ≤ sizeLine; decide, [v1, v2], .cons ru (.cons ru2 .nil), ⟨_, hT2, rfl, _, rfl⟩⟩
    have I1 : Inv X pins σ (upd H s.heap.objs.size (.tup [x, y])) { s with heap := h2, toks := tk } :=
      I.turnedNew (ch := [z, TI, TO, i1, i2]) (fun d o hb q => (sb.2 d (fun q' => hb (by simp [q']))).trans (hk d o (fun q' => hb (by simp [q'])) (fun q' => hb (by simp [q'])) (fun q' => hb (by simp [q'])) (fun q' => hb (by simp [q'])) q)) hf (Nat.le_refl _) new
    refine ⟨.ref s.heap.objs.size, _, I1, rfl, ⟨_, x, y, rfl, I.hok.fresh (Nat.le_refl _), rfl, fun l hl => by rw [injB I hl hqx]; exact hx, fun l hl => by rw [injB I hl hqy]; exact hy⟩,
      ⟨z2, (sb.2 _ S.TIz).trans (hk _ _ S.TIz S.TITO S.TIi1 S.TIi2 hTI), ⟨v1, v2, (sb.2 _ S.TOz).trans o1⟩, s1.1.keep fun o q => (sb.2 _ (Ne.symm S.zi1)).trans q, s2.1.keep fun o q => (sb.2 _ (Ne.symm S.zi2)).trans q⟩, fun d hd => ?_⟩
    have hlt : d < s.heap.objs.size := by
      have e' : d = z ∨ d = TI ∨ d = TO ∨ d = i1 ∨ d = i2 := by simpa using hd
      rcases e' with q | q | q | q | q <;> subst q <;> assumption
    rw [upd_ne (Nat.ne_of_lt hlt)]
    exact (hf d hd).1
  done := by
    intro X hP hw hK hc i pins s σ H E I hf st hg
    subst hP hw hK
    obtain ⟨hz, hTI, ⟨x0, y0, hTO⟩, k1, k2⟩ := st
    obtain ⟨xs, ys, hqx, hqy, hi⟩ := hg
    obtain ⟨its, rv, ks1, _⟩ := invB I hqx
    obtain ⟨its2, rv2, ks2, _⟩ := invB I hqy
    have D1 := drawB (prog := X.prog) (w := X.w) (A := X.A.in1) b (I.ok.hd hc) i1 a1 n1 its.toArray
    have D2 := drawB (prog := X.prog) (w := X.w) (A := X.A.in1) c (I.ok.hd hc) i2 a2 n2 its2.toArray
    have m1 := rv.length
    have m2 := rv2.length
    exact wpAny_pyNext_zipD2_end S D1 D2 hz hTI hTO ⟨k1, ks1⟩ ⟨k2, ks2⟩ (by rw [List.size_toArray]; omega) (by rw [List.size_toArray]; omega) (by rw [List.size_toArray, List.size_toArray]; omega)
      fun h' tk hk => ⟨rfl, I.turnedL (t' := tk) (ch := [z, TI, TO, i1, i2]) (fun d o hb q => hk d o (fun q' => hb (by simp [q'])) (fun q' => hb (by simp [q'])) (fun q' => hb (by simp [q'])) (fun q' => hb (by simp [q'])) q) hf⟩
  self := fun A i s Q E st h => wpAny_pyIter_zip st.1 h
def iZipB (K : PySem.W.Frag) (ta : TA) : TI := fun σ H R => ta σ H fun vs H1 => ∃ b c a1 a2 xs ys, vs = [.ref a1, .ref a2] ∧ SqB b K H1 a1 xs ∧ SqB c K H1 a2 ys ∧ R (ItZ b c K a1 a2) H1
theorem pi_zipB {X : Cx} {e e2 : Expr} {ta : TA} {p pos tpos : Pos} {elts : List Expr} {kk : Nat} (hg : Gl X "zip") (hm : X.mg "zip" = none) (ha : PA X [e, e2] ta)
    (hs : starEach [e, e2] X.env = (false, eval e X.env) :: starEach [e2] X.env := by rfl) (hpl : (backTo pos (starEach [e2] X.env)).any (·.1) = false := by rfl) :
    PI X (.Tuple elts kk tpos) (.Call (.Name "zip" p) [e, e2] [] pos) (iZipB X.K ta) := by
  refine ⟨fun pins s σ H R I h => ?_⟩
  refine Call_ (ld_blt I hg hm PyProof.Rows.boot_zip (PyProof.Rows.callWith_type1 (thn (ha.run pos pins s σ H _ I h) fun us s1 ⟨vs, H1, I1, r1, q1⟩ => ?_) hs hpl))
  obtain ⟨b, c, a1, a2, xs, ys, rfl, hqx, hqy, q⟩ := q1
  obtain ⟨u1, u2, rfl, ru1, ru2⟩ := Vals.two r1
  cases ru1
  cases ru2
  obtain ⟨its, rv, ks1, la1⟩ := invB I1 hqx
  obtain ⟨its2, rv2, ks2, la2⟩ := invB I1 hqy
  refine zip_begins2 (begB b a1 its.toArray) (begB c a2 its2.toArray) ks1 ks2 fun h' hz hTI hTO g1 g2 hsz hk => wpAny_pyIter_zip hz ?_
  have I2 : Inv X pins σ H1 { s1 with heap := h' } := I1.kept (t' := s1.toks) hk
  have S := sepZ s1.heap.objs.size a1 a2 la1 la2
  refine ⟨s1.heap.objs.size + 4, [s1.heap.objs.size + 4, s1.heap.objs.size + 2, s1.heap.objs.size + 3, s1.heap.objs.size, s1.heap.objs.size + 1], _, _, H1, rfl, I2, turnZ b c a1 a2 _ _ _ _ _ S (Nat.ne_of_lt la1) (Nat.ne_of_lt (Nat.lt_succ_of_lt la2)), ⟨hz, hTI, ⟨_, _, hTO⟩, KIt.new g1, KIt.new g2⟩, fun d hd => ?_, q⟩
  have e' : d = s1.heap.objs.size + 4 ∨ d = s1.heap.objs.size + 2 ∨ d = s1.heap.objs.size + 3 ∨ d = s1.heap.objs.size ∨ d = s1.heap.objs.size + 1 := by simpa using hd
  have hle : s1.heap.objs.size ≤ d := five e'
  exact I1.fpOk hle (I1.hok.fresh hle)
end Py

set_option Elab.async false
set_option linter.all false
set_option maxRecDepth 100000
namespace Py
open PySem PySem.Spec PyProof.Rows L2

theorem piOr {X : Cx} {tg e : Expr} {a b : TI} (ha : PI X tg e a) (hb : PI X tg e b) : PI X tg e (fun σ H R => a σ H R ∨ b σ H R) := ⟨fun pins s σ H R I h => by
  rcases h with h | h
  · exact ha.run pins s σ H R I h
  · exact hb.run pins s σ H R I h⟩

/-- a sequence that is walked: its source -/
def srcOf (h : CH) : D → Option Src
  | .lst ds => some (.fix ds)
  | .tup ds => some (.fix ds)
  | .scr ns => some (.fix (ns.map D.int))
  | .cell n => match h[n]? with | some (.lst _) => some (.live n) | _ => none
  | _ => none
section
variable {T : Tab} {K : PySem.W.Frag} {W : WX} {α : List Addr} {H : Hp} {hp : CH}
/-- what stands at a is what the source tells, from here on -/
def SrcAt (T : Tab) (K : PySem.W.Frag) (α : List Addr) (H : Hp) (b : Bool) (a : Addr) (x : Src) : Prop := ∀ g', (∀ a ∈ g', a ∈ T.hid ∨ H a = none) → ∀ α' H' h, Tr α H α' H' → SH (T.hide g') K α' H' h → ∀ l, x.items h = some l → ∃ xs, SqB b K H' a xs ∧ Reps (T.hide g') K α' H' xs l
theorem srcAt {v : V} {d : D} {x : Src} (r : Rep T K α H v d) (sh : SH T K α H hp) (e : srcOf hp d = some x) : ∃ b a xs, v = .ref a ∧ SqB b K H a xs ∧ SrcAt T K α H b a x := by
  cases d with
  | lst ds =>
    cases e
    cases r with
    | lst h n rs => exact ⟨false, _, _, rfl, SqL.of h, fun g' eg α' H' h' t sh' l el => by cases el; exact ⟨_, SqL.of (t.fr _ _ h n.1), (rs.mv (T := T) (g := T.hid) (mv_ext eg)).tr t⟩⟩
  | tup ds =>
    cases e
    cases r with
    | tup h rs => exact ⟨true, _, _, rfl, h.sq, fun g' eg α' H' h' t sh' l el => by cases el; exact ⟨_, (h.tr t).sq, (rs.mv (T := T) (g := T.hid) (mv_ext eg)).tr t⟩⟩
  | scr ns =>
    cases e
    cases r with
    | scr h => exact ⟨false, _, _, rfl, h.sq, fun g' eg α' H' h' t sh' l el => by cases el; exact ⟨_, (h.tr t).sq, Reps.ints⟩⟩
  | cell n =>
    cases r with
    | cell hc =>
      simp only [srcOf] at e
      split at e
      · next ds e1 =>
        cases e
        obtain ⟨xs, h1, h2⟩ := sh.get e1 hc
        refine ⟨false, _, xs, rfl, SqL.of h1, fun g' eg α' H' h' t sh' l el => ?_⟩
        obtain ⟨a', ys, e2, e3, e4⟩ := (Rep.cell (t.cell hc)).lstOf sh' (show Py.lstOf h' (.cell n) = some l from el)
        cases e2
        exact ⟨ys, SqL.of e3, e4⟩
      · cases e
  | _ => cases e
theorem jok_seq {b : Bool} {a : Addr} {x : Src} (h : SrcAt T K α H b a x) : JOk T K α H (match b with | true => Itt K a | false => Itl K a) x := by
  intro g' eg α' H' h' t sh' i l el
  obtain ⟨xs, hq, rs⟩ := h g' eg α' H' h' t sh' l el
  cases b
  · refine ⟨fun d ed => ?_, fun z => ⟨xs, hq, by rw [rs.length]; omega⟩⟩
    obtain ⟨v, e1, r1⟩ := rs.get ed
    refine ⟨⟨xs, v, hq, e1⟩, fun u H'' y => ?_⟩
    obtain ⟨rfl, y⟩ := y
    have : some u = some v := (y xs hq).symm.trans e1
    cases this
    exact ⟨Tr.refl _ _, sh', r1⟩
  · refine ⟨fun d ed => ?_, fun z => ⟨xs, hq, by rw [rs.length]; omega⟩⟩
    obtain ⟨v, e1, r1⟩ := rs.get ed
    refine ⟨⟨xs, v, hq, e1⟩, fun u H'' y => ?_⟩
    obtain ⟨rfl, y⟩ := y
    have : some u = some v := (y xs hq).symm.trans e1
    cases this
    exact ⟨Tr.refl _ _, sh', r1⟩
theorem pairs_get : ∀ {ds : List D} {k i : Nat} {d : D}, (pairs k ds)[i]? = some d → ∃ e, ds[i]? = some e ∧ d = .tup [.int ((k + i : Nat) : Int), e]
  | [], k, i, d, h => by simp [pairs] at h
  | e :: ds, k, 0, d, h => by simp [pairs] at h; exact ⟨e, rfl, by subst h; simp⟩
  | e :: ds, k, i + 1, d, h => by
    simp [pairs] at h
    obtain ⟨e', h1, h2⟩ := pairs_get h
    exact ⟨e', by simpa using h1, by rw [h2]; congr 3; omega⟩
theorem pairs_length : ∀ (k : Nat) (ds : List D), (pairs k ds).length = ds.length
  | _, [] => rfl
  | k, d :: ds => by simp [pairs, pairs_length (k + 1) ds]
theorem zipD_get : ∀ {xs ys : List D} {i : Nat} {d : D}, (zipD xs ys)[i]? = some d → ∃ a b, xs[i]? = some a ∧ ys[i]? = some b ∧ d = .tup [a, b]
  | [], _, i, d, h => by simp [zipD] at h
  | _ :: _, [], i, d, h => by simp [zipD] at h
  | x :: xs, y :: ys, 0, d, h => by simp [zipD] at h; exact ⟨x, y, rfl, rfl, h.symm⟩
  | x :: xs, y :: ys, i + 1, d, h => by
    simp [zipD] at h
    obtain ⟨a, b, h1, h2, h3⟩ := zipD_get h
    exact ⟨a, b, by simpa using h1, by simpa using h2, h3⟩
theorem zipD_length : ∀ (xs ys : List D), (zipD xs ys).length = min xs.length ys.length
  | [], _ => by simp [zipD]
  | _ :: _, [] => by simp [zipD]
  | x :: xs, y :: ys => by simp [zipD, zipD_length xs ys]
theorem jok_enum {b : Bool} {a : Addr} {x : Src} (h : SrcAt T K α H b a x) : JOk T K α H (ItE b K a) (.enum x) := by
  intro g' eg α' H' h' t sh' i l el
  simp only [Src.items, Option.map_eq_some_iff] at el
  obtain ⟨l', e1, rfl⟩ := el
  obtain ⟨xs, hq, rs⟩ := h g' eg α' H' h' t sh' l' e1
  refine ⟨fun d ed => ?_, fun z => ⟨xs, hq, by rw [rs.length]; rw [pairs_length] at z; exact z⟩⟩
  obtain ⟨e, e2, rfl⟩ := pairs_get ed
  obtain ⟨v, e3, r3⟩ := rs.get e2
  refine ⟨⟨xs, v, hq, e3⟩, fun u H'' y => ?_⟩
  obtain ⟨p, z, rfl, hn, rfl, hz⟩ := y
  have : some z = some v := (hz xs hq).symm.trans e3
  cases this
  refine ⟨Tr.new hn, sh'.new hn, Rep.newT sh' (.cons ?_ (.cons r3 .nil)) hn⟩
  rw [Nat.zero_add]
  exact .int _
theorem jok_zip {b c : Bool} {a1 a2 : Addr} {x y : Src} (h : SrcAt T K α H b a1 x) (k : SrcAt T K α H c a2 y) : JOk T K α H (ItZ b c K a1 a2) (.zip x y) := by
  intro g' eg α' H' h' t sh' i l el
  simp only [Src.items] at el
  split at el
  · next l1 l2 e1 e2 =>
    cases el
    obtain ⟨xs, hq, rs⟩ := h g' eg α' H' h' t sh' l1 e1
    obtain ⟨ys, hq2, rs2⟩ := k g' eg α' H' h' t sh' l2 e2
    refine ⟨fun d ed => ?_, fun z => ⟨xs, ys, hq, hq2, by rw [rs.length, rs2.length]; rw [zipD_length] at z; exact z⟩⟩
    obtain ⟨a, b', e3, e4, rfl⟩ := zipD_get ed
    obtain ⟨v, e5, r5⟩ := rs.get e3
    obtain ⟨v2, e6, r6⟩ := rs2.get e4
    refine ⟨⟨xs, ys, v, v2, hq, hq2, e5, e6⟩, fun u H'' yy => ?_⟩
    obtain ⟨p, z, z2, rfl, hn, rfl, hz, hz2⟩ := yy
    have q1 : some z = some v := (hz xs hq).symm.trans e5
    have q2 : some z2 = some v2 := (hz2 ys hq2).symm.trans e6
    cases q1
    cases q2
    exact ⟨Tr.new hn, sh'.new hn, Rep.newT sh' (.cons r5 (.cons r6 .nil)) hn⟩
  · cases el
def rangeD (lo : Int) (n : Nat) : List D := (List.range n).map fun i => D.int (lo + (i : Nat))
theorem jok_range {lo : Int} {n : Nat} : JOk T K α H (Itr lo n) (.fix (rangeD lo n)) := by
  intro g' eg α' H' h' t sh' i l el
  cases el
  refine ⟨fun d ed => ?_, fun z => by have z' : n = i := by simpa [rangeD] using z
                                      exact Nat.le_of_eq z'⟩
  have hi : i < n := by
    have := (List.getElem?_eq_some_iff.mp ed).1
    simpa [rangeD] using this
  have e : d = .int (lo + (i : Nat)) := by
    simp [rangeD, hi] at ed
    exact ed.symm
  subst e
  refine ⟨hi, fun u H'' y => ?_⟩
  obtain ⟨rfl, rfl⟩ := y
  exact ⟨Tr.refl _ _, sh', .int _⟩
end
def RE.src (r : RE) (k : D → CH → Option Src) : RSrc := match r with | .ok d h => (match k d h with | some x => .ok x h | none => .no) | .ex c fs h => .ex c fs h | .no => .no
def RA.src (r : RA) (k : List D → CH → Option Src) : RSrc := match r with | .ok d h => (match k d h with | some x => .ok x h | none => .no) | .ex c fs h => .ex c fs h | .no => .no
def iSeq (m : ME) : MSrc := fun s h => (m s h).src fun d h => srcOf h d
def iEnum' (m : MA) : MSrc := fun s h => (m s h).src fun ds h => match ds with | [d] => (srcOf h d).map .enum | _ => none
def iZip' (m : MA) : MSrc := fun s h => (m s h).src fun ds h => match ds with | [d, e] => (match srcOf h d, srcOf h e with | some x, some y => some (.zip x y) | _, _ => none) | _ => none
def iRange1 (m : MA) : MSrc := fun s h => (m s h).src fun ds h => match ds with
  | [.int j] => if -(2 ^ 62) ≤ j ∧ j < 2 ^ 62 then some (.fix (rangeD 0 j.toNat)) else none
  | _ => none
def iRange2 (m : MA) : MSrc := fun s h => (m s h).src fun ds h => match ds with
  | [.int i, .int j] => if -(2 ^ 62) ≤ i ∧ i < 2 ^ 62 ∧ -(2 ^ 62) ≤ j ∧ j < 2 ^ 62 then some (.fix (rangeD i (j - i).toNat)) else none
  | _ => none
section
variable {T : Tab} {W : WX} {X : Cx} {p pos : Pos} {tg e e2 : Expr} {m : ME} {ma : MA}
theorem PoI.of {g : List Addr} {K : PySem.W.Frag} {α : List Addr} {σ : L2.St} {H : Hp} {s : SLS} {R : It → Hp → Prop} {t : TE} {r : SLS → CH → RE} {h : CH} (sa : SndE T K W t r) (sh : SH (T.hide g) K α H h) (sl : SL (T.hide g) K α H σ s) {k : D → CH → Option Src} (po : PoI (T.hide g) K α σ H R W ((r s h).src k)) {G : VK}
    (step : ∀ v d α1 H1 h1 x, Tr α H α1 H1 → SH (T.hide g) K α1 H1 h1 → Rep (T.hide g) K α1 H1 v d → k d h1 = some x → (∀ J, JOk (T.hide g) K α1 H1 J x → R J H1) → G v H1) : t σ H G := by
  refine sa g α σ H s h sh sl G ?_
  generalize hr : r s h = o at po
  cases o with
  | no => exact po
  | ex c fs h1 => exact po
  | ok d h1 =>
    intro v H1 α1 t1 sh1 r1
    simp only [RE.src] at po
    split at po
    · next x ex => exact step v d α1 H1 h1 x t1 sh1 r1 ex fun J jok => po J H1 α1 t1 sh1 jok
    · exact po.elim
theorem PoI.ofA {g : List Addr} {K : PySem.W.Frag} {α : List Addr} {σ : L2.St} {H : Hp} {s : SLS} {R : It → Hp → Prop} {t : TA} {r : MA} {h : CH} (sa : SndA T K W t r) (sh : SH (T.hide g) K α H h) (sl : SL (T.hide g) K α H σ s) {k : List D → CH → Option Src} (po : PoI (T.hide g) K α σ H R W ((r s h).src k)) {G : List V → Hp → Prop}
    (step : ∀ vs ds α1 H1 h1 x, Tr α H α1 H1 → SH (T.hide g) K α1 H1 h1 → Reps (T.hide g) K α1 H1 vs ds → k ds h1 = some x → (∀ J, JOk (T.hide g) K α1 H1 J x → R J H1) → G vs H1) : t σ H G := by
  refine sa g α σ H s h sh sl G ?_
  generalize hr : r s h = o at po
  cases o with
  | no => exact po
  | ex c fs h1 => exact po
  | ok d h1 =>
    intro v H1 α1 t1 sh1 r1
    simp only [RA.src] at po
    split at po
    · next x ex => exact step v d α1 H1 h1 x t1 sh1 r1 ex fun J jok => po J H1 α1 t1 sh1 jok
    · exact po.elim
theorem si_seq (ha : SE T W X e m) : SI T W X tg e (iSeq m) := by
  obtain ⟨ta, pa, sa⟩ := ha
  refine ⟨_, piOr (pi_list pa) (pi_tup pa), fun g α σ H s h sh sl R po => ?_⟩
  have key := sa g α σ H s h sh sl
  unfold iSeq at po
  generalize hr : m s h = o at po key
  cases o with
  | no => exact po.elim
  | ex c fs h1 => exact .inl (key _ po)
  | ok d h1 =>
    simp only [RE.src] at po
    split at po
    · next x ex =>
      -- the kind of the sequence hangs on d alone
      cases d with
      | tup ds =>
        refine .inr (key _ fun v H1 α1 t1 sh1 r1 => ?_)
        obtain ⟨b, a, xs, rfl, hq, hs⟩ := srcAt r1 sh1 ex
        cases r1 with
        | tup h' rs =>
          have hs' : SrcAt (T.hide g) X.K α1 H1 true a x := by
            cases ex
            exact fun g' eg α' H' h2 t sh' l el => by cases el; exact ⟨_, (h'.tr t).sq, (rs.mv (mv_ext eg)).tr t⟩
          exact ⟨a, rfl, ⟨_, h'.sq⟩, po _ H1 α1 t1 sh1 (jok_seq hs')⟩
      | lst ds =>
        refine .inl (key _ fun v H1 α1 t1 sh1 r1 => ?_)
        cases r1 with
        | lst h' n rs =>
          cases ex
          have hs' : SrcAt (T.hide g) X.K α1 H1 false _ (.fix ds) := fun g' eg α' H' h2 t sh' l el => by cases el; exact ⟨_, SqL.of (t.fr _ _ h' n.1), (rs.mv (mv_ext eg)).tr t⟩
          exact ⟨_, rfl, ⟨_, SqL.of h'⟩, po _ H1 α1 t1 sh1 (jok_seq hs')⟩
      | scr ns =>
        refine .inl (key _ fun v H1 α1 t1 sh1 r1 => ?_)
        cases r1 with
        | scr h' =>
          cases ex
          have hs' : SrcAt (T.hide g) X.K α1 H1 false _ (.fix (ns.map D.int)) := fun g' eg α' H' h2 t sh' l el => by cases el; exact ⟨_, (h'.tr t).sq, Reps.ints⟩
          exact ⟨_, rfl, ⟨_, h'.sq⟩, po _ H1 α1 t1 sh1 (jok_seq hs')⟩
      | cell n =>
        refine .inl (key _ fun v H1 α1 t1 sh1 r1 => ?_)
        obtain ⟨b, a, xs, rfl, hq, hs⟩ := srcAt r1 sh1 ex
        cases b with
        | false => exact ⟨a, rfl, ⟨xs, hq⟩, po _ H1 α1 t1 sh1 (jok_seq hs)⟩
        | true =>
          cases r1 with
          | cell hc =>
            simp only [srcOf] at ex
            split at ex
            · next ds e1 =>
              cases ex
              obtain ⟨ys, h1', h2'⟩ := sh1.get e1 hc
              have hs' : SrcAt (T.hide g) X.K α1 H1 false a (.live n) := fun g' eg α' H' h' t sh' l el => by
                obtain ⟨a', zs, e2, e3, e4⟩ := (Rep.cell (t.cell hc)).lstOf sh' (show Py.lstOf h' (.cell n) = some l from el)
                cases e2
                exact ⟨zs, SqL.of e3, e4⟩
              exact ⟨a, rfl, ⟨ys, SqL.of h1'⟩, po _ H1 α1 t1 sh1 (jok_seq hs')⟩
            · cases ex
      | _ => cases ex
    · exact po.elim
theorem si_enum {elts : List Expr} {kk : Nat} {tpos : Pos} (hm : X.mg "enumerate" = none) (ha : SA T W X [e] ma) (hg : Gl X "enumerate" := by rfl) (hs : starEach [e] X.env = [(false, eval e X.env)] := by rfl) :
    SI T W X (.Tuple elts kk tpos) (.Call (.Name "enumerate" p) [e] [] pos) (iEnum' ma) := by
  obtain ⟨ta, pa, sa⟩ := ha
  refine ⟨_, pi_enumB hg hm pa hs, fun g α σ H s h sh sl R po => ?_⟩
  refine PoI.ofA sa sh sl po fun vs ds α1 H1 h1 x t1 sh1 rs ex k => ?_
  split at ex
  · simp only [Option.map_eq_some_iff] at ex
    obtain ⟨y, e1, rfl⟩ := ex
    obtain ⟨v, rfl, r⟩ := rs.one
    obtain ⟨b, a, xs, rfl, hq, hs⟩ := srcAt r sh1 e1
    exact ⟨b, a, xs, rfl, hq, k _ (jok_enum hs)⟩
  · cases ex
theorem si_zip {elts : List Expr} {kk : Nat} {tpos : Pos} (hm : X.mg "zip" = none) (ha : SA T W X [e, e2] ma) (hg : Gl X "zip" := by rfl) (hs : starEach [e, e2] X.env = (false, eval e X.env) :: starEach [e2] X.env := by rfl)
    (hpl : (backTo pos (starEach [e2] X.env)).any (·.1) = false := by rfl) : SI T W X (.Tuple elts kk tpos) (.Call (.Name "zip" p) [e, e2] [] pos) (iZip' ma) := by
  obtain ⟨ta, pa, sa⟩ := ha
  refine ⟨_, pi_zipB hg hm pa hs hpl, fun g α σ H s h sh sl R po => ?_⟩
  refine PoI.ofA sa sh sl po fun vs ds α1 H1 h1 x t1 sh1 rs ex k => ?_
  split at ex
  · split at ex
    · next y1 y2 e1 e2 =>
      cases ex
      obtain ⟨v, u, rfl, r1, r2⟩ := rs.two
      obtain ⟨b, a, xs, rfl, hq, hs⟩ := srcAt r1 sh1 e1
      obtain ⟨c, a2, ys, rfl, hq2, hs2⟩ := srcAt r2 sh1 e2
      exact ⟨b, c, a, a2, xs, ys, rfl, hq, hq2, k _ (jok_zip hs hs2)⟩
    · cases ex
  · cases ex
theorem si_range1 (hm : X.mg "range" = none) (ha : SA T W X [e] ma) (hg : Gl X "range" := by rfl) (hs : starEach [e] X.env = [(false, eval e X.env)] := by rfl) : SI T W X tg (.Call (.Name "range" p) [e] [] pos) (iRange1 ma) := by
  obtain ⟨ta, pa, sa⟩ := ha
  refine ⟨_, pi_range1 hg hm pa hs, fun g α σ H s h sh sl R po => ?_⟩
  refine PoI.ofA sa sh sl po fun vs ds α1 H1 h1 x t1 sh1 rs ex k => ?_
  split at ex
  · split at ex
    · next hb =>
      cases ex
      obtain ⟨v, rfl, r⟩ := rs.one
      cases r
      exact ⟨_, rfl, hb.1, hb.2, k _ jok_range⟩
    · cases ex
  · cases ex
theorem si_range2 (hm : X.mg "range" = none) (ha : SA T W X [e, e2] ma) (hg : Gl X "range" := by rfl) (hs : starEach [e, e2] X.env = [(false, eval e X.env), (false, eval e2 X.env)] := by rfl) (hs2 : starEach [e2] X.env = [(false, eval e2 X.env)] := by rfl) :
    SI T W X tg (.Call (.Name "range" p) [e, e2] [] pos) (iRange2 ma) := by
  obtain ⟨ta, pa, sa⟩ := ha
  refine ⟨_, pi_range2 hg hm pa hs hs2, fun g α σ H s h sh sl R po => ?_⟩
  refine PoI.ofA sa sh sl po fun vs ds α1 H1 h1 x t1 sh1 rs ex k => ?_
  split at ex
  · split at ex
    · next hb =>
      cases ex
      obtain ⟨v, u, rfl, r1, r2⟩ := rs.two
      cases r1
      cases r2
      exact ⟨_, _, rfl, hb, k _ jok_range⟩
    · cases ex
  · cases ex
end
end Py

set_option Elab.async false
set_option linter.all false
set_option maxRecDepth 100000
namespace Py
open PySem PySem.Spec PyProof.Rows L2

/-! ### the weakest reading -/
def toE (T : Tab) (K : PySem.W.Frag) (W : WX) (m : ME) : TE := fun σ H Q => ∃ g α s h, SH (T.hide g) K α H h ∧ SL (T.hide g) K α H σ s ∧ PoE (T.hide g) K α σ H s Q W (m s h)
def toT (T : Tab) (K : PySem.W.Frag) (W : WX) (m : ME) : TT := fun σ H Q => ∃ g α s h, SH (T.hide g) K α H h ∧ SL (T.hide g) K α H σ s ∧ PoE (T.hide g) K α σ H s (fun v H' => ∃ b, v = .bl b ∧ Q b H') W (m s h)
theorem SE.pe {T : Tab} {W : WX} {X : Cx} {e : Expr} {m : ME} (h : SE T W X e m) : PE X e (toE T X.K W m) := by
  obtain ⟨t, p, q⟩ := h
  exact ⟨fun pins s σ H Q I ⟨g, α, sl, hp, a, b, c⟩ => p.run pins s σ H Q I (q g α σ H sl hp a b Q c)⟩
theorem ST.pt {T : Tab} {W : WX} {X : Cx} {e : Expr} {m : ME} (h : ST T W X e m) : PT X e (toT T X.K W m) := by
  obtain ⟨t, p, q⟩ := h
  exact ⟨fun pins s σ H Q I ⟨g, α, sl, hp, a, b, c⟩ => p.run pins s σ H Q I (q g α σ H sl hp a b Q c)⟩

theorem Tr.updNew {α α' : List Addr} {H H' : Hp} {p : Addr} {o : HO} (t : Tr α H α' H') (e : H p = none) : Tr α H α' (upd H' p o) := by
  refine ⟨t.pre, fun b u h n => ?_, fun b h => ?_⟩
  · rw [upd_ne (ne_of_none h e)]; exact t.fr b u h n
  · by_cases hb : b = p
    · rw [hb, upd_same] at h; cases h
    · rw [upd_ne hb] at h; exact t.mono b h
/-! ### [e for target in iter if test] -/
def wipeS (s : SLS) : List Nat → SLS
  | [] => s
  | v :: vs => (wipeS s vs).set v none
theorem SL.wipe {T : Tab} {K : PySem.W.Frag} {α : List Addr} {H : Hp} {σ : L2.St} {s : SLS} (h : SL T K α H σ s) : ∀ vs : List Nat, SL T K α H (L2.wipe σ vs) (wipeS s vs)
  | [] => h
  | v :: vs => (SL.wipe h vs).clear v none
theorem set_set_ne {β : Type} {l : List β} {i j : Nat} {a b : β} (h : i ≠ j) : (l.set i a).set j b = (l.set j b).set i a := List.set_comm _ _ h
theorem wipe_set {i : Nat} {x : Option V} : ∀ (vs : List Nat) (σ : L2.St), L2.wipe (σ.set i x) vs = if i ∈ vs then L2.wipe σ vs else (L2.wipe σ vs).set i x
  | [], σ => by simp [L2.wipe]
  | v :: vs, σ => by
    show (L2.wipe (σ.set i x) vs).set v none = _
    rw [wipe_set vs σ]
    by_cases h1 : i ∈ vs
    · rw [if_pos h1, if_pos (List.mem_cons_of_mem _ h1)]; rfl
    · rw [if_neg h1]
      by_cases h2 : i = v
      · subst h2
        rw [if_pos List.mem_cons_self]
        show ((L2.wipe σ vs).set i x).set i none = (L2.wipe σ vs).set i none
        rw [List.set_set]
      · rw [if_neg (by simp [h1, h2])]
        exact set_set_ne h2
theorem wipe_wipe (σ : L2.St) : ∀ vs : List Nat, L2.wipe (L2.wipe σ vs) vs = L2.wipe σ vs
  | [] => rfl
  | v :: vs => by
    show (L2.wipe ((L2.wipe σ vs).set v none) vs).set v none = (L2.wipe σ vs).set v none
    rw [wipe_set]
    split
    · rw [wipe_wipe σ vs]
    · rw [wipe_wipe σ vs, List.set_set]
/-- a target within a comprehension: it stores the block's own names alone -/
def SGw (vs : List Nat) (T : Tab) (X : Cx) (e : Expr) (tg : TG) (mg : MG) : Prop := PG X e tg ∧ ∀ g α σ H s v d, SL (T.hide g) X.K α H σ s → Rep (T.hide g) X.K α H v d → ∀ Q : L2.St → Hp → Prop,
  (match mg d s with | some s' => ∀ σ', SL (T.hide g) X.K α H σ' s' → L2.wipe σ' vs = L2.wipe σ vs → Q σ' H | none => False) → tg v σ H Q
def SGsw (vs : List Nat) (T : Tab) (X : Cx) (es : List Expr) (tg : TGs) (mg : List D → SLS → Option SLS) : Prop := PGs X es tg ∧ ∀ g α σ H s us ds, SL (T.hide g) X.K α H σ s → Reps (T.hide g) X.K α H us ds → ∀ Q : L2.St → Hp → Prop,
  (match mg ds s with | some s' => ∀ σ', SL (T.hide g) X.K α H σ' s' → L2.wipe σ' vs = L2.wipe σ vs → Q σ' H | none => False) → tg us σ H Q
section
variable {T : Tab} {X : Cx} {pos : Pos} {vs : List Nat}
theorem sgw_name (i : Nat) {x : Str} (hN : X.N.Nodup) (hv : i ∈ vs := by decide) (hi : X.N[i]? = some x := by rfl) (hx : Loc X.env.scope x := by first | exact Or.inl rfl | exact Or.inr rfl)
    (hf : X.fn x = true ∨ X.env.scope.names.lookup x = some .local := by first | exact .inl rfl | exact .inr rfl) : SGw vs T X (.Name x pos) (gName i) (gN i) :=
  ⟨pg_name hN hi hx hf, fun g α σ H s v d sl r Q q => q _ (sl.set r i) (by rw [wipe_set, if_pos hv])⟩
theorem sgsw_nil : SGsw vs T X [] gNil gNils := ⟨pgs_nil, fun g α σ H s us ds sl r Q q => by
  cases r with
  | nil => exact ⟨rfl, q σ sl rfl⟩
  | cons _ _ => exact q.elim⟩
theorem sgsw_cons {e : Expr} {es : List Expr} {t : TG} {u : TGs} {gm : MG} {r : List D → SLS → Option SLS} (h1 : SGw vs T X e t gm) (h2 : SGsw vs T X es u r) (ha : (assignEach (e :: es) X.env).map (·.2) = assign e X.env :: (assignEach es X.env).map (·.2) := by rfl) :
    SGsw vs T X (e :: es) (gCons t u) (gConss gm r) := by
  obtain ⟨pa, sa⟩ := h1
  obtain ⟨pb, sb⟩ := h2
  refine ⟨pgs_cons pa pb ha, fun g α σ H s us ds sl rs Q q => ?_⟩
  cases rs with
  | nil => exact q.elim
  | cons r1 r2 =>
    refine ⟨_, _, rfl, sa g α σ H s _ _ sl r1 _ ?_⟩
    unfold gConss at q
    simp only at q
    generalize gm _ s = o at q
    cases o with
    | none => exact q.elim
    | some s' => exact fun σ' sl' w => sb g α σ' H s' _ _ sl' r2 Q (by
        simp only at q
        generalize r _ s' = o2 at q ⊢
        cases o2 with
        | none => exact q
        | some s2 => exact fun σ2 sl2 w2 => q σ2 sl2 (w2.trans w))
theorem sgw_tup {es : List Expr} {k n : Nat} {u : TGs} {r : List D → SLS → Option SLS} (hc : X.calm = true) (h : SGsw vs T X es u r) (hn : (assignEach es X.env).length = n := by rfl) (hst : (assignEach es X.env).findIdx? (·.1) = none := by rfl) :
    SGw vs T X (.Tuple es k pos) (gTup X.K n u) (gT n r) := by
  obtain ⟨pb, sb⟩ := h
  refine ⟨pg_tup (n := n) hc pb hn hst, fun g α σ H s v d sl rr Q q => ?_⟩
  unfold gT at q
  split at q
  · next s' e =>
    split at e
    · next ds =>
      cases rr with
      | tup h1 rs =>
        split at e
        · next hz =>
          refine ⟨_, _, rfl, h1.sq, by rw [rs.length]; exact hz, sb g α σ H s _ _ sl rs Q ?_⟩
          rw [e]
          exact q
        · cases e
    · cases e
  · exact q.elim
end
inductive RLc where
  | add (d : D) (h : CH)
  | skip (h : CH)
  | no
def lcStep (gm : MG) (mt me : ME) (s : SLS) (d : D) (h : CH) : RLc := match gm d s with
  | none => .no
  | some s' => (match mt s' h with
    | .ok (.bl true) h1 => (match me s' h1 with | .ok e h2 => .add e h2 | _ => .no)
    | .ok (.bl false) h1 => .skip h1
    | _ => .no)
def lcK (x : Src) (st : D → CH → RLc) : Nat → Nat → List D → CH → RA
  | 0, i, acc, h => match x.items h with | some l => if l.length = i then .ok acc h else .no | none => .no
  | k + 1, i, acc, h => match x.items h with
    | some l => (match l[i]? with
      | some d => (match st d h with
        | .add e h' => if acc.length < sizeLine then lcK x st k (i + 1) (acc ++ [e]) h' else .no
        | .skip h' => lcK x st k (i + 1) acc h'
        | .no => .no)
      | none => .no)
    | none => .no
def mYes : ME := fun _ h => .ok (.bl true) h
def mLc (mi : MSrc) (gm : MG) (mt me : ME) (vs : List Nat) : ME := fun s h => (mi s h).bind fun x h1 => match x.items h1 with
  | some l => (match lcK x (lcStep gm mt me (wipeS s vs)) l.length 0 [] h1 with | .ok ds h2 => .ok (.lst ds) h2 | _ => .no)
  | none => .no
/-- .. as a list that changes -/
def mLcC (mi : MSrc) (gm : MG) (mt me : ME) (vs : List Nat) : ME := fun s h => (mi s h).bind fun x h1 => match x.items h1 with
  | some l => (match lcK x (lcStep gm mt me (wipeS s vs)) l.length 0 [] h1 with | .ok ds h2 => .ok (.cell h2.length) (h2 ++ [.lst ds]) | _ => .no)
  | none => .no
def WF : WX := fun _ _ _ _ => False
theorem takesF {X : Cx} : Takes X WF := fun _ _ x => by
  obtain ⟨_, _, _, _, _, _, _, _, _, _, _, _, _, _, _, _, z⟩ := x
  exact z.elim
theorem wiF : WI WF := fun _ _ _ _ _ h => h.elim
section
variable {T : Tab} {K : PySem.W.Frag} {W : WX}
/-- the reading of a comprehension from what its parts mean: the new list is hidden while it grows -/
theorem lc_run {wi : TI} {tg : TG} {tt : TT} {te : TE} {vs : List Nat} {mi : MSrc} {gm : MG} {mt me : ME} (si : SndI T K W wi mi)
    (sg : ∀ g α σ H s v d, SL (T.hide g) K α H σ s → Rep (T.hide g) K α H v d → ∀ Q : L2.St → Hp → Prop, (match gm d s with | some s' => ∀ σ', SL (T.hide g) K α H σ' s' → L2.wipe σ' vs = L2.wipe σ vs → Q σ' H | none => False) → tg v σ H Q)
    (st : SndT T K WF tt mt) (se : SndE T K WF te me) {g α : List Addr} {σ : L2.St} {H : Hp} {s : SLS} {h : CH} (sh : SH (T.hide g) K α H h) (sl : SL (T.hide g) K α H σ s) {Q : VK}
    (po : match mi s h with
      | .no => False
      | .ex c fs h1 => ∀ cls dx H' α', Tr α H α' H' → SH (T.hide g) K α' H' h1 → XRep (T.hide g) K α' H' cls dx c fs → W cls dx σ H'
      | .ok x h1 => (match x.items h1 with
        | none => False
        | some l => (match lcK x (lcStep gm mt me (wipeS s vs)) l.length 0 [] h1 with
          | .ok ds h2 => ∀ D xs H' α', Tr α H α' H' → H D = none → D ∉ α' → D ∉ g → SH (T.hide (D :: g)) K α' H' h2 → H' D = some (.lst xs) → Reps (T.hide (D :: g)) K α' H' xs ds → Q (.ref D) H'
          | _ => False))) : tLc wi tg tt te vs σ H Q := by
  refine si g α σ H s h sh sl _ ?_
  generalize mi s h = o at po
  cases o with
  | no => exact po
  | ex c fs h1 => exact po
  | ok x h1 =>
    intro J H1 α1 t1 sh1 jok D hD
    simp only at po
    generalize hl : x.items h1 = ol at po
    cases ol with
    | none => exact po.elim
    | some l =>
      simp only at po
      have sl1 : SL (T.hide g) K α1 H1 σ s := sl.tr t1
      have hDH : H D = none := t1.mono D hD
      have fr := sh1.free hD
      have sh2 : SH (T.hide (D :: g)) K α1 (upd H1 D (.lst [])) h1 := sh1.mv (mv_new hD) fun a m => by
        rcases List.mem_cons.mp m with z | z
        · subst z; exact ⟨⟨_, upd_same⟩, fr.1⟩
        · exact sh1.hal' (Tr.new (α := α1) (o := .lst []) hD).mono a z
      have sl2 : SL (T.hide (D :: g)) K α1 (upd H1 D (.lst [])) σ s := sl1.mv (mv_new hD)
      have slw := sl2.wipe vs
      refine ⟨fun i m H' => ∃ α' h' acc xs, Tr α1 H1 α' H' ∧ D ∉ α' ∧ SH (T.hide (D :: g)) K α' H' h' ∧ SL (T.hide (D :: g)) K α' H' (L2.wipe σ vs) (wipeS s vs) ∧ H' D = some (.lst xs) ∧ Reps (T.hide (D :: g)) K α' H' xs acc ∧
        (match lcK x (lcStep gm mt me (wipeS s vs)) m i acc h' with
          | .ok ds h2 => ∀ D' xs H'' α'', Tr α H α'' H'' → H D' = none → D' ∉ α'' → D' ∉ g → SH (T.hide (D' :: g)) K α'' H'' h2 → H'' D' = some (.lst xs) → Reps (T.hide (D' :: g)) K α'' H'' xs ds → Q (.ref D') H''
          | _ => False),
        ⟨l.length, α1, h1, [], [], Tr.new hD, fr.1, sh2, slw, upd_same, .nil, po⟩, ?_⟩
      rintro i m H' ⟨α', h', acc, xs, t', nD, sh', sl', hxs, rs, po'⟩
      have sh0 : SH (T.hide g) K α' H' h' := sh'.mv mv_old fun a z => ⟨(sh'.hal a (List.mem_cons_of_mem _ z)).1, (sh'.hal a (List.mem_cons_of_mem _ z)).2⟩
      cases m with
      | zero =>
        simp only [lcK] at po'
        split at po'
        · next ds h2 e =>
          split at e
          · next l' e' =>
            split at e
            · next hl' =>
              cases e
              exact .inl ⟨(jok (D :: g) (fun a m => (List.mem_cons.mp m).elim (fun z => .inr (by rw [z]; exact hD)) .inl) α' H' _ t' sh' i l' e').2 hl', po' D xs H' α' (t1.trans t') hDH nD fr.2 sh' hxs rs⟩
            · cases e
          · cases e
        · exact po'.elim
      | succ m =>
        simp only [lcK] at po'
        generalize hx : x.items h' = oi at po'
        cases oi with
        | none => exact po'.elim
        | some l' =>
          simp only at po'
          generalize hd : l'[i]? = od at po'
          cases od with
          | none => exact po'.elim
          | some d =>
            obtain ⟨go, yl⟩ := (jok (D :: g) (fun a m => (List.mem_cons.mp m).elim (fun z => .inr (by rw [z]; exact hD)) .inl) α' H' h' t' sh' i l' hx).1 d hd
            refine .inr ⟨go, _, fun H'' q => ⟨m, Nat.lt_succ_self _, q⟩, fun v H2 y => ?_⟩
            obtain ⟨t2, sh2', r2⟩ := yl v H2 y
            refine sg (D :: g) α' (L2.wipe σ vs) H2 (wipeS s vs) v d (sl'.tr t2) r2 _ ?_
            simp only [lcStep] at po'
            generalize hg : gm d (wipeS s vs) = og at po' ⊢
            cases og with
            | none => exact po'.elim
            | some s' =>
              intro σ3 sl3 w3
              refine ⟨w3.trans (wipe_wipe σ vs), ?_⟩
              refine st (D :: g) α' σ3 H2 s' h' sh2' sl3 _ ?_
              simp only at po'
              generalize ht : mt s' h' = o1 at po' ⊢
              cases o1 with
              | no => exact po'.elim
              | ex c fs h1 => exact po'.elim
              | ok bd hb =>
                intro bv H3 α3 t3 sh3 r3
                have t23 : Tr α1 H1 α3 H3 := (t'.trans t2).trans t3
                have nD3 : D ∉ α3 := t3.notin (t2.fr D _ hxs nD) nD
                have hD3 : H3 D = some (.lst xs) := t3.fr D _ (t2.fr D _ hxs nD) nD
                have rs3 := (rs.tr t2).tr t3
                have sl33 := (sl'.tr t2).tr t3
                cases bd with
                | bl b =>
                  cases r3
                  refine ⟨b, rfl, ?_⟩
                  cases b with
                  | false =>
                    rw [if_neg Bool.false_ne_true]
                    exact ⟨α3, hb, acc, xs, t23, nD3, sh3, sl33, hD3, rs3, po'⟩
                  | true =>
                    rw [if_pos rfl]
                    refine se (D :: g) α3 σ3 H3 s' hb sh3 (sl3.tr t3) _ ?_
                    simp only at po'
                    generalize he : me s' hb = o2 at po' ⊢
                    cases o2 with
                    | no => exact po'.elim
                    | ex c fs h1 => exact po'.elim
                    | ok e h4 =>
                      intro yv H4 α4 t4 sh4 r4
                      simp only at po'
                      split at po'
                      · next ds h2 hq =>
                        split at hq
                        · next hz =>
                          have nD4 : D ∉ α4 := t4.notin hD3 nD3
                          have hD4 : H4 D = some (.lst xs) := t4.fr D _ hD3 nD3
                          have rs4 := rs3.tr t4
                          refine ⟨xs, hD4, by rw [rs4.length]; exact hz, α4, h4, acc ++ [e], xs ++ [yv], (t23.trans t4).updNew hD, nD4, ?_, (sl33.tr t4).mv mv_upd, upd_same, (rs4.append (.cons r4 .nil)).mv mv_upd, ?_⟩
                          · refine sh4.mv mv_upd fun a m => ?_
                            obtain ⟨⟨u, q⟩, n⟩ := sh4.hal a m
                            refine ⟨?_, n⟩
                            by_cases z : a = D
                            · subst z; exact ⟨_, upd_same⟩
                            · exact ⟨u, by rw [upd_ne z]; exact q⟩
                          · rw [hq]
                            exact po'
                        · cases hq
                      · exact po'.elim
                | _ => exact po'.elim
end

section
variable {T : Tab} {K : PySem.W.Frag} {g : List Addr} {α : List Addr} {H : Hp} {D0 : Addr}
theorem IsT.cellH {a : Addr} {xs : List V} (h : IsT (T.hide (D0 :: g)) K α H a xs) : IsT (T.hide g) K (α ++ [D0]) H a xs := by
  rcases h with ⟨h, n1, n2⟩ | h
  · exact .inl ⟨h, fun m => (List.mem_append.mp m).elim n1 fun z => n2 (by rw [List.mem_singleton.mp z]; exact List.mem_cons_self), fun m => n2 (List.mem_cons_of_mem _ m)⟩
  · exact .inr h
theorem IsS.cellH {a : Addr} {xs : List V} (h : IsS (T.hide (D0 :: g)) K α H a xs) : IsS (T.hide g) K (α ++ [D0]) H a xs := by
  rcases h with ⟨h, n1, n2⟩ | h
  · exact .inl ⟨h, fun m => (List.mem_append.mp m).elim n1 fun z => n2 (by rw [List.mem_singleton.mp z]; exact List.mem_cons_self), fun m => n2 (List.mem_cons_of_mem _ m)⟩
  · exact .inr h
theorem apartH {a : Addr} (n : a ∉ α ∧ a ∉ (T.hide (D0 :: g)).hid) : a ∉ α ++ [D0] ∧ a ∉ (T.hide g).hid :=
  ⟨fun m => (List.mem_append.mp m).elim n.1 fun z => n.2 (by rw [List.mem_singleton.mp z]; exact List.mem_cons_self), fun m => n.2 (List.mem_cons_of_mem _ m)⟩
mutual
theorem Rep.cellH : ∀ {v : V} {d : D}, Rep (T.hide (D0 :: g)) K α H v d → Rep (T.hide g) K (α ++ [D0]) H v d
  | _, _, .non => .non
  | _, _, .bl b => .bl b
  | _, _, .int i => .int i
  | _, _, .str x => .str x
  | _, _, .tup h r => .tup h.cellH (Reps.cellH r)
  | _, _, .lst h n r => .lst h (apartH n) (Reps.cellH r)
  | _, _, .obj h n l r => .obj h (apartH n) l (Reps.cellH r)
  | _, _, .cell h => .cell (by rw [List.getElem?_append_left (List.getElem?_eq_some_iff.mp h).1]; exact h)
  | _, _, .fn n => .fn (T := T.hide g) n
  | _, _, .scr h => .scr h.cellH
theorem Reps.cellH : ∀ {vs : List V} {ds : List D}, Reps (T.hide (D0 :: g)) K α H vs ds → Reps (T.hide g) K (α ++ [D0]) H vs ds
  | _, _, .nil => .nil
  | _, _, .cons h r => .cons (Rep.cellH h) (Reps.cellH r)
end
theorem CellOk.cellH {a : Addr} {c : Cell} (h : CellOk (T.hide (D0 :: g)) K α H a c) : CellOk (T.hide g) K (α ++ [D0]) H a c := by
  cases c with
  | lst ds => obtain ⟨xs, h, r⟩ := h; exact ⟨xs, h, r.cellH⟩
  | ob c fs => obtain ⟨dx, xs, h, e, r⟩ := h; exact ⟨dx, xs, h, e, r.cellH⟩
  | dT kvs => obtain ⟨xs, h, e, r⟩ := h; exact ⟨xs, h, e, r.cellH⟩
  | dK kvs => obtain ⟨xs, h, e, r⟩ := h; exact ⟨xs, h, e, r.cellH⟩
theorem SH.cellH {hp : CH} (h : SH (T.hide (D0 :: g)) K α H hp) {xs : List V} {ds : List D} (hx : H D0 = some (.lst xs)) (n : D0 ∉ α) (ng : D0 ∉ g) (r : Reps (T.hide (D0 :: g)) K α H xs ds) : SH (T.hide g) K (α ++ [D0]) H (hp ++ [.lst ds]) := by
  refine ⟨?_, by rw [List.length_append, List.length_append, h.len]; rfl, fun m a c h1 h2 => ?_, fun a m => ?_⟩
  · rw [List.nodup_append]
    refine ⟨h.nd, by simp, fun a ha b hb z => ?_⟩
    rw [List.mem_singleton.mp hb] at z
    subst z
    exact n ha
  · by_cases hm : m < α.length
    · rw [List.getElem?_append_left hm] at h1
      rw [List.getElem?_append_left (by rw [← h.len]; exact hm)] at h2
      exact (h.at_ m a c h1 h2).cellH
    · rw [List.getElem?_append_right (by omega)] at h1
      rw [List.getElem?_append_right (by rw [← h.len]; omega)] at h2
      rw [← h.len] at h2
      obtain ⟨z, _⟩ := List.getElem?_eq_some_iff.mp h1
      simp at z
      have z0 : m - α.length = 0 := by omega
      rw [z0] at h1 h2
      simp at h1 h2
      subst h1; subst h2
      exact ⟨xs, hx, r.cellH⟩
  · obtain ⟨q, n'⟩ := h.hal a (List.mem_cons_of_mem _ m)
    refine ⟨q, fun w => (List.mem_append.mp w).elim n' fun z => ?_⟩
    rw [List.mem_singleton.mp z] at m
    exact ng m
theorem Tr.addc {α α' : List Addr} {H H' : Hp} (t : Tr α H α' H') (e : H D0 = none) : Tr α H (α' ++ [D0]) H' := by
  obtain ⟨β, rfl, hb⟩ := t.pre
  exact ⟨⟨β ++ [D0], by simp, fun b m => (List.mem_append.mp m).elim (hb b) fun z => by rw [List.mem_singleton.mp z]; exact e⟩, t.fr, t.mono⟩
end
section
variable {T : Tab} {W : WX} {X : Cx} {pos : Pos} {elt tg iter c : Expr} {scope : Scope} {own : List (Str × Nat)} {mi : MSrc} {gm : MG} {gt : TG} {me mt : ME}
/-- the contexts of a comprehension's block -/
abbrev blks (X : Cx) (scope : Scope) (P : Cx → Prop) : Prop := ∀ (s : Shared) (H : Hp) (C : Addr) (cl : List (Str × Addr)) (fp : List Addr), P (X.blk s H scope (compEnvC scope cl C X.env) fp)
theorem toE_snd (m : ME) : SndE T X.K W (toE T X.K W m) m := fun g α σ H s h sh sl Q po => ⟨g, α, s, h, sh, sl, po⟩
theorem toT_snd (m : ME) : SndT T X.K W (toT T X.K W m) m := fun g α σ H s h sh sl Q po => ⟨g, α, s, h, sh, sl, po⟩
theorem yes_snd : SndT T X.K W tYes mYes := fun g α σ H s h sh sl Q po => by
  obtain ⟨b, e, q⟩ := po (.bl true) H α (Tr.refl _ _) sh (.bl true)
  cases e
  exact q
theorem anyG (hg : blks X scope fun X' => SGw (own.map (·.2)) T X' tg gt gm) : ∀ g α σ H s v d, SL (T.hide g) X.K α H σ s → Rep (T.hide g) X.K α H v d → ∀ Q : L2.St → Hp → Prop, (match gm d s with | some s' => ∀ σ', SL (T.hide g) X.K α H σ' s' → L2.wipe σ' (own.map (·.2)) = L2.wipe σ (own.map (·.2)) → Q σ' H | none => False) → gt v σ H Q :=
  fun g α σ H s v d => (hg {} (fun _ => none) 0 [] []).2 g α σ H s v d

theorem lc_snd (hi : SI T W X tg iter mi) {wi : TI} (hw : SndI T X.K W wi mi) {tt : TT} (ht : SndT T X.K WF tt mt)
    (hg : blks X scope fun X' => SGw (own.map (·.2)) T X' tg gt gm) : SndE T X.K W (tLc wi gt tt (toE T X.K WF me) (own.map (·.2))) (mLc mi gm mt me (own.map (·.2))) := fun g α σ H s h sh sl Q po => by
  refine lc_run hw (anyG hg) ht (toE_snd me) sh sl ?_
  unfold mLc at po
  generalize mi s h = o at po ⊢
  cases o with
  | no => exact po
  | ex c fs h1 => exact po
  | ok x h1 =>
    simp only [RSrc.bind] at po ⊢
    generalize x.items h1 = ol at po ⊢
    cases ol with
    | none => exact po
    | some l =>
      simp only at po ⊢
      generalize lcK x _ l.length 0 [] h1 = r at po ⊢
      cases r with
      | no => exact po
      | ex c fs h2 => exact po
      | ok ds h2 =>
        intro D xs H' α' t hD nα ng sh' hx rs
        exact po _ H' α' t (sh'.mv mv_old fun a z => ⟨(sh'.hal a (List.mem_cons_of_mem _ z)).1, (sh'.hal a (List.mem_cons_of_mem _ z)).2⟩) (.lst hx ⟨nα, ng⟩ (rs.mv mv_old))
theorem lcC_snd (hi : SI T W X tg iter mi) {wi : TI} (hw : SndI T X.K W wi mi) {tt : TT} (ht : SndT T X.K WF tt mt)
    (hg : blks X scope fun X' => SGw (own.map (·.2)) T X' tg gt gm) : SndE T X.K W (tLc wi gt tt (toE T X.K WF me) (own.map (·.2))) (mLcC mi gm mt me (own.map (·.2))) := fun g α σ H s h sh sl Q po => by
  refine lc_run hw (anyG hg) ht (toE_snd me) sh sl ?_
  unfold mLcC at po
  generalize mi s h = o at po ⊢
  cases o with
  | no => exact po
  | ex c fs h1 => exact po
  | ok x h1 =>
    simp only [RSrc.bind] at po ⊢
    generalize x.items h1 = ol at po ⊢
    cases ol with
    | none => exact po
    | some l =>
      simp only at po ⊢
      generalize lcK x _ l.length 0 [] h1 = r at po ⊢
      cases r with
      | no => exact po
      | ex c fs h2 => exact po
      | ok ds h2 =>
        intro D xs H' α' t hD nα ng sh' hx rs
        have l2 := sh'.len
        exact po _ H' _ (t.addc hD) (sh'.cellH hx nα ng rs) (.cell (by rw [← l2]; simp))
theorem se_lc (hc : X.calm = true) (hN : X.N.Nodup) (ok : BlkOk X.N X.env.scope scope own) (hi : SI T W X tg iter mi) (hg : blks X scope fun X' => SGw (own.map (·.2)) T X' tg gt gm) (he : blks X scope fun X' => SE T WF X' elt me)
    (hs : ∀ x, foldedSetIterable iter X.env x = pure x := by intro _; rfl) : SE T W X (.ListComp elt [{ target := tg, iter := iter, ifs := [], is_async := 0 }] scope pos) (mLc mi gm mYes me (own.map (·.2))) := by
  obtain ⟨wi, pi, si⟩ := id hi
  exact ⟨tLc wi gt _ (toE T X.K WF me) _, pe_lc (te := toE T X.K WF me) hc hN pi ok (fun s H C cl fp => (hg s H C cl fp).1) (fun s H C cl fp => pts_nil) (fun s H C cl fp => (he s H C cl fp).pe) hs, lc_snd hi si yes_snd hg⟩
theorem se_lcC (hc : X.calm = true) (hN : X.N.Nodup) (ok : BlkOk X.N X.env.scope scope own) (hi : SI T W X tg iter mi) (hg : blks X scope fun X' => SGw (own.map (·.2)) T X' tg gt gm) (he : blks X scope fun X' => SE T WF X' elt me)
    (hs : ∀ x, foldedSetIterable iter X.env x = pure x := by intro _; rfl) : SE T W X (.ListComp elt [{ target := tg, iter := iter, ifs := [], is_async := 0 }] scope pos) (mLcC mi gm mYes me (own.map (·.2))) := by
  obtain ⟨wi, pi, si⟩ := id hi
  exact ⟨tLc wi gt _ (toE T X.K WF me) _, pe_lc (te := toE T X.K WF me) hc hN pi ok (fun s H C cl fp => (hg s H C cl fp).1) (fun s H C cl fp => pts_nil) (fun s H C cl fp => (he s H C cl fp).pe) hs, lcC_snd hi si yes_snd hg⟩
theorem se_lcIf (hc : X.calm = true) (hN : X.N.Nodup) (ok : BlkOk X.N X.env.scope scope own) (hi : SI T W X tg iter mi) (hg : blks X scope fun X' => SGw (own.map (·.2)) T X' tg gt gm) (ht : blks X scope fun X' => ST T WF X' c mt) (he : blks X scope fun X' => SE T WF X' elt me)
    (hs : ∀ x, foldedSetIterable iter X.env x = pure x := by intro _; rfl) : SE T W X (.ListComp elt [{ target := tg, iter := iter, ifs := [c], is_async := 0 }] scope pos) (mLc mi gm mt me (own.map (·.2))) := by
  obtain ⟨wi, pi, si⟩ := id hi
  exact ⟨tLc wi gt _ (toE T X.K WF me) _, pe_lc (te := toE T X.K WF me) hc hN pi ok (fun s H C cl fp => (hg s H C cl fp).1) (fun s H C cl fp => pts_one (ht s H C cl fp).pt) (fun s H C cl fp => (he s H C cl fp).pe) hs, lc_snd hi si (toT_snd mt) hg⟩
/-- name = [..]: the stores are told apart by the text's lines -/
theorem ss_setLc {i : Nat} {y : Str} {py spos : Pos} (hc : X.calm = true) (hN : X.N.Nodup) (ok : BlkOk X.N X.env.scope scope own) (hi : SI T W X tg iter mi) (hg : blks X scope fun X' => SGw (own.map (·.2)) T X' tg gt gm) (he : blks X scope fun X' => SE T WF X' elt me)
    (hk : X.env.scope.kind = .function := by rfl) (hy : X.N[i]? = some y := by rfl) (hyl : X.env.scope.names.lookup y = some .local := by rfl) (hl : (py.line == pos.line) = true := by rfl) (ha : (scope.names.any fun (n, k) => n == y && (k == .local || k == .cell)) = false := by decide +kernel)
    (hs : ∀ x, foldedSetIterable iter X.env x = pure x := by intro _; rfl) : SS T W X (.Assign [.Name y py] (.ListComp elt [{ target := tg, iter := iter, ifs := [], is_async := 0 }] scope pos) spos) (sAsg (mLc mi gm mYes me (own.map (·.2))) (gN i)) := by
  obtain ⟨wi, pi, si⟩ := id hi
  refine ⟨_, ps_setLc (te := toE T X.K WF me) hc hN hy hyl (sw_true hk hyl hl ha) pi ok (fun s H C cl fp => (hg s H C cl fp).1) (fun s H C cl fp => pts_nil) (fun s H C cl fp => (he s H C cl fp).pe) hs, fun g α σ H s h sh sl D po => ?_⟩
  refine (lc_snd hi si yes_snd hg).runS sh sl po fun v d α1 H1 h1 t1 sh1 sl1 r1 po1 => ?_
  exact po1 _ H1 α1 (Tr.refl _ _) sh1 (sl1.set r1 i)
theorem ss_setLcC {i : Nat} {y : Str} {py spos : Pos} (hc : X.calm = true) (hN : X.N.Nodup) (ok : BlkOk X.N X.env.scope scope own) (hi : SI T W X tg iter mi) (hg : blks X scope fun X' => SGw (own.map (·.2)) T X' tg gt gm) (he : blks X scope fun X' => SE T WF X' elt me)
    (hk : X.env.scope.kind = .function := by rfl) (hy : X.N[i]? = some y := by rfl) (hyl : X.env.scope.names.lookup y = some .local := by rfl) (hl : (py.line == pos.line) = true := by rfl) (ha : (scope.names.any fun (n, k) => n == y && (k == .local || k == .cell)) = false := by decide +kernel)
    (hs : ∀ x, foldedSetIterable iter X.env x = pure x := by intro _; rfl) : SS T W X (.Assign [.Name y py] (.ListComp elt [{ target := tg, iter := iter, ifs := [], is_async := 0 }] scope pos) spos) (sAsg (mLcC mi gm mYes me (own.map (·.2))) (gN i)) := by
  obtain ⟨wi, pi, si⟩ := id hi
  refine ⟨_, ps_setLc (te := toE T X.K WF me) hc hN hy hyl (sw_true hk hyl hl ha) pi ok (fun s H C cl fp => (hg s H C cl fp).1) (fun s H C cl fp => pts_nil) (fun s H C cl fp => (he s H C cl fp).pe) hs, fun g α σ H s h sh sl D po => ?_⟩
  refine (lcC_snd hi si yes_snd hg).runS sh sl po fun v d α1 H1 h1 t1 sh1 sl1 r1 po1 => ?_
  exact po1 _ H1 α1 (Tr.refl _ _) sh1 (sl1.set r1 i)
theorem ss_setLcIf {i : Nat} {y : Str} {py spos : Pos} (hc : X.calm = true) (hN : X.N.Nodup) (ok : BlkOk X.N X.env.scope scope own) (hi : SI T W X tg iter mi) (hg : blks X scope fun X' => SGw (own.map (·.2)) T X' tg gt gm) (ht : blks X scope fun X' => ST T WF X' c mt) (he : blks X scope fun X' => SE T WF X' elt me)
    (hk : X.env.scope.kind = .function := by rfl) (hy : X.N[i]? = some y := by rfl) (hyl : X.env.scope.names.lookup y = some .local := by rfl) (hl : (py.line == pos.line) = true := by rfl) (ha : (scope.names.any fun (n, k) => n == y && (k == .local || k == .cell)) = false := by decide +kernel)
    (hs : ∀ x, foldedSetIterable iter X.env x = pure x := by intro _; rfl) : SS T W X (.Assign [.Name y py] (.ListComp elt [{ target := tg, iter := iter, ifs := [c], is_async := 0 }] scope pos) spos) (sAsg (mLc mi gm mt me (own.map (·.2))) (gN i)) := by
  obtain ⟨wi, pi, si⟩ := id hi
  refine ⟨_, ps_setLc (te := toE T X.K WF me) (tt := toT T X.K WF mt) hc hN hy hyl (sw_true hk hyl hl ha) pi ok (fun s H C cl fp => (hg s H C cl fp).1) (fun s H C cl fp => pts_one (ht s H C cl fp).pt) (fun s H C cl fp => (he s H C cl fp).pe) hs, fun g α σ H s h sh sl D po => ?_⟩
  refine (lc_snd hi si (toT_snd mt) hg).runS sh sl po fun v d α1 H1 h1 t1 sh1 sl1 r1 po1 => ?_
  exact po1 _ H1 α1 (Tr.refl _ _) sh1 (sl1.set r1 i)
end
end Py

set_option Elab.async false
set_option linter.all false
set_option maxRecDepth 100000
namespace Py
open PySem PySem.Spec PyProof.Rows L2

/-! ### a def: from what its body means to what it does -/
mutual
/-- new lists and instances become trees; h: the cells as they stand, those below n stay -/
inductive Fz (h : CH) (n : Nat) : D → D → Prop
  | low {d : D} : d.low n = true → Fz h n d d
  | cell {m : Nat} {ds es : List D} : n ≤ m → h[m]? = some (.lst ds) → Fzs h n ds es → Fz h n (.cell m) (.lst es)
  | ob {m c : Nat} {fs : Xfs} {es : List D} : n ≤ m → h[m]? = some (.ob c fs) → Fzs h n (fs.map (·.2)) es → Fz h n (.cell m) (.obj c (fs.map (·.1)) es)
  | tup {ds es : List D} : Fzs h n ds es → Fz h n (.tup ds) (.tup es)
  | lst {ds es : List D} : Fzs h n ds es → Fz h n (.lst ds) (.lst es)
inductive Fzs (h : CH) (n : Nat) : List D → List D → Prop
  | nil : Fzs h n [] []
  | cons {d e : D} {ds es : List D} : Fz h n d e → Fzs h n ds es → Fzs h n (d :: ds) (e :: es)
end
def FzX (h : CH) (n : Nat) (fs gs : Xfs) : Prop := fs.map (·.1) = gs.map (·.1) ∧ Fzs h n (fs.map (·.2)) (gs.map (·.2))
/-- the cells h1 are what is left of h', from h0 on -/
structure To (h0 h' h1 : CH) : Prop where
  pre : ∃ j, h' = h1 ++ j
  le : h0.length ≤ h1.length
  low : ∀ c ∈ h1, c ∈ h0 ∨ c.low h1.length = true
def Drops (h0 : CH) (o : RS) (r : RE) : Prop := match r with
  | .ok d h1 => (match o with
    | .nx _ h' => d = .non ∧ To h0 h' h1
    | .rt d' h' => To h0 h' h1 ∧ Fz h' h1.length d' d
    | _ => False)
  | .ex c gs h1 => (match o with
    | .ex c' fs _ h' => c' = c ∧ To h0 h' h1 ∧ FzX h' h1.length fs gs
    | _ => False)
  | .no => True
def startD (n : Nat) (ds : List D) : SLS := ds.map some ++ List.replicate (n - ds.length) none
/-- the body's meaning m does what mf says -/
def Meets' (n N : Nat) (m : MS) (mf : MF) : Prop := ∀ ds h, ds.length = n → D.lows h.length ds = true → (∀ c ∈ h, c.low h.length = true) → mf ds h ≠ .no → Drops h (m (startD N ds) h) (mf ds h)
section
variable {T : Tab} {K : PySem.W.Frag} {α α' β : List Addr} {H H' : Hp}
theorem take_pre {h1 j : CH} (l : α'.length = (h1 ++ j).length) : ∃ β, α' = α'.take h1.length ++ β ∧ (α'.take h1.length).length = h1.length := by
  refine ⟨α'.drop h1.length, (List.take_append_drop _ _).symm, ?_⟩
  rw [List.length_take, l, List.length_append]
  omega
mutual
theorem low_mono {n m : Nat} (l : n ≤ m) : ∀ d : D, D.low n d = true → D.low m d = true
  | .cell k, e => by
    simp only [D.low, decide_eq_true_eq] at e ⊢
    omega
  | .tup ds, e => by simp only [D.low] at e ⊢; exact lows_mono l ds e
  | .lst ds, e => by simp only [D.low] at e ⊢; exact lows_mono l ds e
  | .obj _ _ ds, e => by simp only [D.low] at e ⊢; exact lows_mono l ds e
  | .non, _ | .bl _, _ | .int _, _ | .str _, _ | .fn _, _ | .scr _, _ => rfl
theorem lows_mono {n m : Nat} (l : n ≤ m) : ∀ ds : List D, D.lows n ds = true → D.lows m ds = true
  | [], _ => rfl
  | d :: ds, e => by
    simp only [D.lows, Bool.and_eq_true] at e ⊢
    exact ⟨low_mono l d e.1, lows_mono l ds e.2⟩
end
mutual
theorem Fz.rep {h : CH} {n : Nat} (sh : SH T K (α ++ β) H h) (l : α.length = n) : ∀ {d' d : D} {v : V}, Fz h n d' d → Rep T K (α ++ β) H v d' → Rep T K α H v d
  | _, _, _, .low e, r => r.pop (by rw [l]; exact e)
  | _, _, _, .cell (m := m) le e f, r => by
    cases r with
    | cell hc =>
      obtain ⟨xs, h1, h2⟩ := sh.get e hc
      refine .lst h1 ⟨fun ma => ?_, fun mh => (sh.hal _ mh).2 (List.mem_of_getElem? hc)⟩ (Fzs.rep sh l f h2)
      obtain ⟨i, hi, ei⟩ := List.getElem_of_mem ma
      have q : (α ++ β)[i]? = some α[i] := by rw [List.getElem?_append_left hi]; exact List.getElem?_eq_getElem hi
      rw [ei] at q
      have := nd_ix sh.nd q hc
      omega
  | _, _, _, .ob (m := m) le e f, r => by
    cases r with
    | cell hc =>
      obtain ⟨dx, xs, h1, h2, h3⟩ := sh.get e hc
      refine .obj (dx := dx) (xs := xs.map (·.2)) (by rw [← h2, zip_maps]; exact h1) ⟨fun ma => ?_, fun mh => (sh.hal _ mh).2 (List.mem_of_getElem? hc)⟩ (by rw [← h2]; simp) (Fzs.rep sh l f h3)
      obtain ⟨i, hi, ei⟩ := List.getElem_of_mem ma
      have q : (α ++ β)[i]? = some α[i] := by rw [List.getElem?_append_left hi]; exact List.getElem?_eq_getElem hi
      rw [ei] at q
      have := nd_ix sh.nd q hc
      omega
  | _, _, _, .tup f, r => by
    cases r with
    | tup h1 rs => exact .tup h1.pop (Fzs.rep sh l f rs)
  | _, _, _, .lst f, r => by
    cases r with
    | lst h1 n1 rs => exact .lst h1 ⟨fun m => n1.1 (List.mem_append_left _ m), n1.2⟩ (Fzs.rep sh l f rs)
theorem Fzs.rep {h : CH} {n : Nat} (sh : SH T K (α ++ β) H h) (l : α.length = n) : ∀ {ds' ds : List D} {vs : List V}, Fzs h n ds' ds → Reps T K (α ++ β) H vs ds' → Reps T K α H vs ds
  | _, _, _, .nil, r => by cases r; exact .nil
  | _, _, _, .cons f fs, r => by
    cases r with
    | cons r1 r2 => exact .cons (Fz.rep sh l f r1) (Fzs.rep sh l fs r2)
end
theorem To.sh {h0 h' h1 : CH} (t : To h0 h' h1) (tr : Tr α H α' H') (sh0 : SH T K α H h0) (sh : SH T K α' H' h') : ∃ α1 β, α' = α1 ++ β ∧ α1.length = h1.length ∧ SH T K α1 H' h1 ∧ Tr α H α1 H' := by
  obtain ⟨j, rfl⟩ := t.pre
  obtain ⟨β, e, l⟩ := take_pre sh.len
  refine ⟨α'.take h1.length, β, e, l, ?_, ?_⟩
  · rw [e] at sh
    refine sh.pop l fun c m => ?_
    rcases t.low c m with q | q
    · -- an old cell speaks of old cells alone
      have q2 := sh0.low c q
      exact lows_mono t.le _ q2
    · exact q
  · obtain ⟨γ, e2, hg⟩ := tr.pre
    refine ⟨⟨γ.take (h1.length - α.length), ?_, fun b m => hg b (List.mem_of_mem_take m)⟩, tr.fr, tr.mono⟩
    have la := sh0.len
    have le := t.le
    rw [e2, List.take_append]
    rw [List.take_of_length_le (by omega)]

theorem sl_start {vs : List V} {ds : List D} (r : Reps T K α H vs ds) (N : List Str) : SL T K α H (L2.start N vs) (startD N.length ds) := by
  refine ⟨by simp [L2.start, startD, r.length], fun i d e => ?_⟩
  unfold startD at e
  unfold L2.start
  by_cases hi : i < ds.length
  · rw [List.getElem?_append_left (by simpa using hi), List.getElem?_map] at e
    rw [List.getElem?_append_left (by simpa [r.length] using hi), List.getElem?_map]
    simp only [Option.map_eq_some_iff] at e
    obtain ⟨d', e1, e2⟩ := e
    cases e2
    obtain ⟨v, e3, r3⟩ := r.get e1
    exact ⟨v, by rw [e3]; rfl, r3⟩
  · rw [List.getElem?_append_right (by simpa using hi)] at e
    have := List.mem_of_getElem? e
    simp at this
theorem FzX.rep {h : CH} {n : Nat} (sh : SH T K (α ++ β) H h) (l : α.length = n) {cls : Value} {dx : Option Addr} {c : Nat} {fs gs : Xfs} (f : FzX h n fs gs) (r : XRep T K (α ++ β) H cls dx c fs) : XRep T K α H cls dx c gs := by
  obtain ⟨e, d, xs, e1, e2, e3, e4⟩ := r
  exact ⟨e, d, xs, e1, e2, e3.trans f.1, Fzs.rep sh l f.2 e4⟩
end
/-- what the body of a def may lean on -/
structure BX (T : Tab) (W : WX) (X : Cx) (k : Nat) : Prop where
  tk : Takes X W
  wi : WI W
  po : PassesOwn (model X.prog X.w) X.A X.env X.xe
  hr : Rm k X.A
theorem BX.hu {T : Tab} {W : WX} {X : Cx} {k : Nat} (b : BX T W X k) : X.A.units + 64 < cLine := b.hr.rm.units
section
variable {T : Tab} {P : Program} {w : World} {K : PySem.W.Frag} {mg : Str → Option Value} {base : Heap}
theorem ok_def {x qual : Str} {st : Stmt} {f : Addr} {fd : FuncData} {N ps : List Str} {k n : Nat} {mf : MF} {m : MS} (F : Fun K x qual st f fd) (S : FnScope N ps (defScope st)) (hn : ps.length = n)
    (body : ∀ (cdv : Value) (A : Around) (outer : List Env) (s : Shared) (H : Hp) (E : XK), BX T (fun cls d _ H => E cls d H) (cxOf (L2.CX P w) P w K mg base N qual (defScope st) f cdv A outer s H E) k →
      SSs T (fun cls d _ H => E cls d H) (cxOf (L2.CX P w) P w K mg base N qual (defScope st) f cdv A outer s H E) (defBody st) m)
    (me : Meets' n N.length m mf) : FnG P w K mg base (L2.CX P w) (k + 1) f fd ps (spM T K n mf) := by
  refine funG F S (fun vs H Q E h => by rw [hn]; exact spM_len h) fun cdv A outer s H vs Q E hr h => ?_
  obtain ⟨g, α, hp, ds, sh, rs, po⟩ := h
  have bx : BX T (fun cls d _ H => E cls d H) (cxOf (L2.CX P w) P w K mg base N qual (defScope st) f cdv A outer s H E) k := ⟨takes_of rfl rfl rfl rfl, fun _ _ _ _ _ z => z, passes_of rfl, hr⟩
  obtain ⟨t, p, q⟩ := body cdv A outer s H E bx
  refine ⟨t, p, q g α _ H _ hp sh (sl_start rs N) _ ?_⟩
  unfold ar at po
  split at po
  · next hl =>
    have lo := rs.low
    rw [sh.len] at lo
    have hne : mf ds hp ≠ .no := fun z => by rw [z] at po; exact po
    have dr := me ds hp hl lo sh.low hne
    generalize m (startD N.length ds) hp = o at dr
    generalize hr' : mf ds hp = r at dr po hne
    cases r with
    | no => exact absurd rfl hne
    | ok d h1 =>
      cases o with
      | nx s' h' =>
        obtain ⟨rfl, to⟩ := dr
        intro σ' H' α' t' sh' sl'
        obtain ⟨α1, β, rfl, l, sh1, tr⟩ := to.sh t' sh sh'
        exact po _ H' α1 tr sh1 .non
      | rt d' h' =>
        obtain ⟨to, fz⟩ := dr
        intro v H' α' t' sh' r'
        obtain ⟨α1, β, rfl, l, sh1, tr⟩ := to.sh t' sh sh'
        exact po v H' α1 tr sh1 (fz.rep sh' l r')
      | _ => exact dr.elim
    | ex c gs h1 =>
      cases o with
      | ex c' fs s' h' =>
        obtain ⟨rfl, to, fz⟩ := dr
        intro cls dx σ' H' α' t' sh' sl' x'
        obtain ⟨α1, β, rfl, l, sh1, tr⟩ := to.sh t' sh sh'
        exact po cls dx H' α1 tr sh1 (fz.rep sh' l x')
      | _ => exact dr.elim
  · exact po.elim
end
end Py

set_option Elab.async false
set_option linter.all false
set_option maxRecDepth 100000
namespace Py
open PySem PySem.Spec PyProof.Rows L2

/-! ### more operations -/
def fNeg : F1 := fun _ x => match x with | .int i => some (.int (-i)) | _ => none
section
variable {T : Tab} {K : PySem.W.Frag} {W : WX}
theorem su_neg : SndU T K (rU fun i => .int (-i)) fNeg := fun g α H hp x dx d sh rx e Q q => by
  unfold fNeg at e
  split at e
  · cases e; cases rx
    exact ⟨_, rfl, q _ H (Tr.refl α H) sh (.int _)⟩
  · cases e
def fRepL : F2 := fun h x y => match y with
  | .int k => (match lstOf h x with | some ds => if -(2 ^ 63) ≤ k ∧ k < 2 ^ 63 ∧ ds.length * k.toNat ≤ sizeLine then some (.lst (List.replicate k.toNat ds).flatten) else none | none => none)
  | _ => none
theorem Reps.flat {α : List Addr} {H : Hp} {vs : List V} {ds : List D} (r : Reps T K α H vs ds) : ∀ n, Reps T K α H (List.replicate n vs).flatten (List.replicate n ds).flatten
  | 0 => .nil
  | n + 1 => by
    rw [List.replicate_succ, List.replicate_succ, List.flatten_cons, List.flatten_cons]
    exact r.append (Reps.flat r n)
theorem sr_repL : SndR T K rRep fRepL := fun g α H hp x y dx dy d sh rx ry e Q q => by
  unfold fRepL at e
  split at e
  · split at e
    · next ds e1 =>
      split at e
      · next hz =>
        cases e; cases ry
        obtain ⟨a, xs, rfl, h1, r1⟩ := rx.lstOf sh e1
        exact ⟨a, _, xs, rfl, rfl, h1, hz.1, hz.2.1, by rw [r1.length]; exact hz.2.2, fun p hn => q _ _ (Tr.new hn) (sh.new hn) (Rep.newL sh (r1.flat _) hn)⟩
      · cases e
    · cases e
  · cases e
def fRepT : F2 := fun h x y => match x, y with
  | .tup ds, .int k => if ds ≠ [] ∧ 2 ≤ k ∧ k ≤ 1000 ∧ ds.length ≤ 1000 then some (.tup (List.replicate k.toNat ds).flatten) else none
  | _, _ => none
theorem sr_repT : SndR T K (rRepT K) fRepT := fun g α H hp x y dx dy d sh rx ry e Q q => by
  unfold fRepT at e
  split at e
  · next ds k =>
    split at e
    · next hz =>
      cases e; cases ry
      cases rx with
      | tup h1 r1 =>
        refine ⟨_, _, _, rfl, rfl, h1.sq, fun z => hz.1 ?_, hz.2.1, hz.2.2.1, by rw [r1.length]; exact hz.2.2.2, fun p hn => q _ _ (Tr.new hn) (sh.new hn) (Rep.newT sh (r1.flat _) hn)⟩
        subst z
        cases r1
        rfl
    · cases e
  · cases e
def fMul : F2 := fOr fMulI (fOr fRepT fRepL)
def fPow : F2 := fInt fun i j => if 0 ≤ j ∧ j ≤ 1000000 ∧ i.natAbs < 2 ^ 64 then some (.int (i ^ j.toNat)) else none
def cMax : FC := fun _ ds => match ds with | [.int i, .int j] => some (.int (if j > i then j else i)) | _ => none
def cMin : FC := fun _ ds => match ds with | [.int i, .int j] => some (.int (if j < i then j else i)) | _ => none
theorem sc_max : SndC T K (fun xs H Q => ∃ i j, xs = [.int i, .int j] ∧ Q (.int (if j > i then j else i)) H) cMax := fun g α H hp vs ds d sh rs e Q q => by
  unfold cMax at e
  split at e
  · obtain ⟨v, u, rfl, r1, r2⟩ := rs.two
    cases e; cases r1; cases r2
    exact ⟨_, _, rfl, q _ H (Tr.refl _ _) sh (.int _)⟩
  · cases e
theorem sc_min : SndC T K (fun xs H Q => ∃ i j, xs = [.int i, .int j] ∧ Q (.int (if j < i then j else i)) H) cMin := fun g α H hp vs ds d sh rs e Q q => by
  unfold cMin at e
  split at e
  · obtain ⟨v, u, rfl, r1, r2⟩ := rs.two
    cases e; cases r1; cases r2
    exact ⟨_, _, rfl, q _ H (Tr.refl _ _) sh (.int _)⟩
  · cases e
end
section
variable {T : Tab} {W : WX} {X : Cx} {p pos : Pos} {a b e : Expr} {es : List Expr} {ma mb : ME} {me : MA}
theorem se_neg (ha : SE T W X a ma) : SE T W X (.UnaryOp .USub a pos) (mUn fNeg ma) := by
  obtain ⟨ta, pa, sa⟩ := ha
  exact ⟨_, pe_un un_neg pa, snd_un su_neg sa⟩
theorem se_mul (ha : SE T W X a ma) (hb : SE T W X b mb) : SE T W X (.BinOp a .Mult b pos) (mBin fMul ma mb) :=
  se_op (opOr op_mulW (opOr op_repT op_rep)) (SndR.or (sr_int fun i j d e => by
    split at e
    · next h => cases e; exact ⟨h, fun _ _ _ => .int _⟩
    · cases e) (SndR.or sr_repT sr_repL)) ha hb
theorem se_pow (ha : SE T W X a ma) (hb : SE T W X b mb) : SE T W X (.BinOp a .Pow b pos) (mBin fPow ma mb) := se_op op_pow (sr_int fun i j d e => by
  split at e
  · next h => cases e; exact ⟨h, fun _ _ _ => .int _⟩
  · cases e) ha hb
theorem se_max (hm : X.mg "max" = none) (ha : SA T W X (e :: es) me) (hc : X.calm = true := by rfl) (hg : Gl X "max" := by rfl) (he : starEach (e :: es) X.env = (false, eval e X.env) :: starEach es X.env := by rfl) (hpl : (backTo pos (starEach es X.env)).any (·.1) = false := by rfl) :
    SE T W X (.Call (.Name "max" p) (e :: es) [] pos) (mCB cMax me) := se_cb (call_max2 hc) sc_max hm ha hg (by decide +kernel) (by decide) (by decide) he hpl
theorem se_min (hm : X.mg "min" = none) (ha : SA T W X (e :: es) me) (hc : X.calm = true := by rfl) (hg : Gl X "min" := by rfl) (he : starEach (e :: es) X.env = (false, eval e X.env) :: starEach es X.env := by rfl) (hpl : (backTo pos (starEach es X.env)).any (·.1) = false := by rfl) :
    SE T W X (.Call (.Name "min" p) (e :: es) [] pos) (mCB cMin me) := se_cb (call_min2 hc) sc_min hm ha hg (by decide +kernel) (by decide) (by decide) he hpl
end

/-! ### isinstance against built-in types -/
def tyName (h : CH) : D → Option String
  | .non => some "NoneType"
  | .bl _ => some "bool"
  | .int _ => some "int"
  | .str _ => some "str"
  | .tup _ => some "tuple"
  | .lst _ => some "list"
  | .scr _ => some "list"
  | .cell n => match h[n]? with | some (.lst _) => some "list" | _ => none
  | _ => none
def isK (t u : String) : Option Bool := if (Value.type t == Value.type u) = true then some true else if PySem.W.kitMeta u = true then (fastBuiltinMro t).map (·.contains (.type u)) else none
theorem kitOne_ty {K : PySem.W.Frag} {t u : String} : PySem.W.kitOne K (.type t) (.type u) = isK t u := rfl
def isAny (t : String) : List String → Option Bool
  | [] => some false
  | u :: r => match isK t u with | some true => some true | some false => isAny t r | none => none
theorem isAny_kit {K : PySem.W.Frag} {t : String} : ∀ us : List String, PySem.W.kitAny K (.type t) (us.map .type) = isAny t us
  | [] => rfl
  | u :: r => by
    show (match PySem.W.kitOne K (.type t) (.type u) with | some true => some true | some false => PySem.W.kitAny K (.type t) (r.map .type) | none => none) = _
    rw [isAny_kit r, kitOne_ty]
    rfl
def fIsi (us : List String) : F1 := fun h x => match tyName h x with | some t => (isAny t us).map .bl | none => none
section
variable {T : Tab} {K : PySem.W.Frag} {α : List Addr} {H : Hp} {hp : CH}
theorem Rep.tyx {v : V} {d : D} {t : String} (r : Rep T K α H v d) (sh : SH T K α H hp) (e : tyName hp d = some t) : TyX K H v (.type t) := by
  cases r with
  | non => cases e; exact .base .non
  | bl b => cases e; exact .base (.bl b)
  | int i => cases e; exact .base (.int i)
  | str x => cases e; exact .base (.str x)
  | tup h rs =>
    cases e
    rcases h with ⟨h | ⟨o, h⟩, _⟩ | ⟨o, its, n, h1, h2, _⟩
    · exact .base (.tup h)
    · exact .fTuple h
    · exact .kTuple h1 h2
  | lst h n rs => cases e; exact .base (.lst h)
  | scr h =>
    cases e
    rcases h with ⟨h | ⟨o, h⟩, _⟩ | ⟨o, its, n, h1, h2, _⟩
    · exact .base (.lst h)
    · exact .base (.frz h)
    · exact .kList h1 h2
  | cell h =>
    simp only [tyName] at e
    split at e
    · next ds e' =>
      cases e
      obtain ⟨xs, h1, h2⟩ := sh.get e' h
      exact .base (.lst h1)
    · cases e
  | _ => cases e
end
section
variable {T : Tab} {W : WX} {X : Cx} {p p2 p3 pos pos2 : Pos} {a : Expr} {ma : ME}
theorem se_isi {x : Str} {u : String} (hm : X.mg "isinstance" = none) (hx : X.mg x = none) (ha : SE T W X a ma) (hg : Gl X "isinstance" := by rfl) (hgx : Gl X x := by rfl) (hv : bootBuiltins x = some (.type u) := by decide +kernel) (hn : x ≠ "__name__" := by decide)
    (hdb : (x == ("__debug__" : Str)) = false := by decide) (he : starEach [a, .Name x p2] X.env = (false, eval a X.env) :: starEach [.Name x p2] X.env := by rfl) (he2 : starEach [.Name x p2] X.env = (false, eval (.Name x p2) X.env) :: starEach [] X.env := by rfl)
    (hpl : (backTo pos (starEach [.Name x p2] X.env)).any (·.1) = false := by rfl) : SE T W X (.Call (.Name "isinstance" p) [a, .Name x p2] [] pos) (mUn (fIsi [u]) ma) := by
  obtain ⟨ta, pa, sa⟩ := ha
  refine ⟨_, pe_callB call_isi hg hm boot_isinstance (pa_cons pa (pa_cons (pe_bltn hgx hx hv (v := .ty u) rfl hn hdb) pa_nil he2) he) (by decide) (by decide) he hpl, fun g α σ H s h sh sl Q po => ?_⟩
  refine sa.run sh sl po fun x dx α1 H1 h1 t1 sh1 sl1 r1 po1 => ?_
  unfold lift at po1
  split at po1
  · next d e =>
    unfold fIsi at e
    split at e
    · next t et =>
      simp only [Option.map_eq_some_iff] at e
      obtain ⟨b, eb, rfl⟩ := e
      refine ⟨x, .ty u, .type t, .type u, b, rfl, .ty u, r1.tyx sh1 et, ?_, po1 _ H1 α1 (Tr.refl _ _) sh1 (.bl b)⟩
      have z : isK t u = some b := by
        unfold isAny at eb
        cases hk : isK t u with
        | none => rw [hk] at eb; cases eb
        | some c =>
          rw [hk] at eb
          cases c
          · exact eb
          · exact eb
      exact kitOne_ty.trans z
    · cases e
  · exact po1.elim
/-- isinstance(x, (S, T)) -/
theorem se_isi2 {x y : Str} {u z : String} {k : Nat} (hm : X.mg "isinstance" = none) (hx : X.mg x = none) (hy : X.mg y = none) (ha : SE T W X a ma) (hg : Gl X "isinstance" := by rfl) (hgx : Gl X x := by rfl) (hgy : Gl X y := by rfl)
    (hv : bootBuiltins x = some (.type u) := by decide +kernel) (hvy : bootBuiltins y = some (.type z) := by decide +kernel) (hn : x ≠ "__name__" := by decide) (hny : y ≠ "__name__" := by decide)
    (hdb : (x == ("__debug__" : Str)) = false := by decide) (hdby : (y == ("__debug__" : Str)) = false := by decide)
    (he : starEach [a, .Tuple [.Name x p2, .Name y p3] k pos2] X.env = (false, eval a X.env) :: starEach [.Tuple [.Name x p2, .Name y p3] k pos2] X.env := by rfl)
    (he2 : starEach [.Tuple [.Name x p2, .Name y p3] k pos2] X.env = (false, eval (.Tuple [.Name x p2, .Name y p3] k pos2) X.env) :: starEach [] X.env := by rfl)
    (he3 : starEach [.Name x p2, .Name y p3] X.env = (false, eval (.Name x p2) X.env) :: starEach [.Name y p3] X.env := by rfl) (he4 : starEach [.Name y p3] X.env = (false, eval (.Name y p3) X.env) :: starEach [] X.env := by rfl)
    (hpl : (backTo pos (starEach [.Tuple [.Name x p2, .Name y p3] k pos2] X.env)).any (·.1) = false := by rfl) :
    SE T W X (.Call (.Name "isinstance" p) [a, .Tuple [.Name x p2, .Name y p3] k pos2] [] pos) (mUn (fIsi [u, z]) ma) := by
  obtain ⟨ta, pa, sa⟩ := ha
  refine ⟨_, pe_callB call_isiT hg hm boot_isinstance (pa_cons pa (pa_cons (pe_tup (pa_cons (pe_bltn hgx hx hv (v := .ty u) rfl hn hdb) (pa_cons (pe_bltn hgy hy hvy (v := .ty z) rfl hny hdby) pa_nil he4) he3)) pa_nil he2) he) (by decide) (by decide) he hpl, fun g α σ H s h sh sl Q po => ?_⟩
  refine sa.run sh sl po fun x dx α1 H1 h1 t1 sh1 sl1 r1 po1 => ?_
  unfold lift at po1
  split at po1
  · next d e =>
    unfold fIsi at e
    split at e
    · next t et =>
      simp only [Option.map_eq_some_iff] at e
      obtain ⟨b, eb, rfl⟩ := e
      refine ⟨by show 2 ≤ sizeLine; rw [sizeLine_eq]; omega, fun tp hn => ?_⟩
      have t2 : Tr α1 H1 α1 (upd H1 tp (.tup [.ty u, .ty z])) := Tr.new hn
      have sh2 := sh1.new (o := .tup [.ty u, .ty z]) hn
      refine ⟨x, tp, [.ty u, .ty z], .type t, [.type u, .type z], b, rfl, upd_same, .cons (.ty u) (.cons (.ty z) .nil), (r1.tr t2).tyx sh2 et, ?_, po1 _ _ α1 t2 sh2 (.bl b)⟩
      exact (isAny_kit [u, z]).trans eb
    · cases e
  · exact po1.elim
end

/-! ### repr -/
section
variable {K : PySem.W.Frag} {H : Hp}
mutual
theorem dp_plain : ∀ (d : PyData) (v : V), Dp K H v d → d.hasDict = false
  | .none, _, _ | .bool _, _, _ | .int _, _, _ | .str _, _, _ => by simp only [PyData.hasDict]
  | .list ds, _, h => by
    cases h with
    | lst _ ha => simp only [PyData.hasDict]; exact dp_plains ds _ ha
  | .tuple ds, _, h => by
    cases h with
    | tup _ ha => simp only [PyData.hasDict]; exact dp_plains ds _ ha
  | .dict _, _, h => by cases h
theorem dp_plains : ∀ (ds : List PyData) (vs : List V), DpAll K H vs ds → PyData.hasDictAll ds = false
  | [], _, _ => by simp only [PyData.hasDictAll]
  | d :: ds, _, h => by
    cases h with
    | cons h1 h2 => simp only [PyData.hasDictAll, dp_plain d _ h1, dp_plains ds _ h2, Bool.or_self]
end
end
def fRepr (h : CH) (x : D) : Option D := match toPy h 9 x with
  | some p => if p.showable = true ∧ p.shown.length ≤ sizeLine ∧ p.depth ≤ 20 then some (.str p.shown) else none
  | none => none
def cRepr : FC := fun h ds => match ds with | [x] => fRepr h x | _ => none
def rRepr (K : PySem.W.Frag) : List V → Hp → VK → Prop := fun vs H Q => ∃ (v : V) (p : PyData), vs = [v] ∧ Dp K H v p ∧ p.showable = true ∧ p.shown.length ≤ sizeLine ∧ p.depth ≤ 20 ∧ Q (.str p.shown) H
theorem cr_repr {X : Cx} (gd : X.A.guards = some []) (hu : X.A.units + 64 < cLine) : CallR X (.builtin "repr") (rRepr X.K) := by
  intro pins s σ H vs us Q I r h
  obtain ⟨v, p, rfl, dp, hs, hz, hd, q⟩ := h
  obtain ⟨u, rfl, ru⟩ : ∃ u, us = [u] ∧ RelV v u := by
    cases r with
    | cons r1 r2 => cases r2; exact ⟨_, rfl, r1⟩
  obtain ⟨as, rd⟩ := Dp.reads I p v u dp ru
  have nd := dp_plain p v dp
  have atRef : ∀ a, u = .ref a → wpAny (model X.prog X.w) X.A (call (.builtin "repr") [u]) (EP X pins σ Q) X.xe s := by
    intro a ea
    subst ea
    refine repr_of_reads' rd hs (PyData.noDict_hsm nd) gd (by omega) (fun _ _ e => e) (fun h' z tk k => ?_) hz
    exact ⟨.str p.shown, H, I.kept k, ⟨z, rfl⟩, q⟩
  cases rd with
  | none => exact PySem.P.repr_of_none ⟨.str _, H, I.tok _, ⟨_, rfl⟩, by simpa [PyData.shown] using q⟩
  | bool b => exact PySem.P.repr_of_bool ⟨.str _, H, I.tok _, ⟨_, rfl⟩, by simpa [PyData.shown] using q⟩
  | int i t => exact PySem.P.repr_of_int (by simpa [PyData.showable] using hs) ⟨.str _, H, I.tok _, ⟨_, rfl⟩, by simpa [PyData.shown] using q⟩
  | str x t => exact PySem.P.repr_of_str ⟨.str _, H, I.tok _, ⟨_, rfl⟩, by simpa [PyData.shown] using q⟩ (by simpa [PyData.shown] using hz)
  | list h1 h2 h3 h4 => exact atRef _ rfl
  | tuple h1 h2 h3 h4 => exact atRef _ rfl
  | dict h1 h2 h3 h4 h5 => exact atRef _ rfl
section
variable {T : Tab} {W : WX} {X : Cx} {p pos : Pos} {a : Expr} {ma : MA} {k : Nat}
theorem sc_repr {K : PySem.W.Frag} : SndC T K (rRepr K) cRepr := fun g α H hp vs ds d sh rs e Q q => by
  unfold cRepr at e
  split at e
  · obtain ⟨v, rfl, r⟩ := rs.one
    unfold fRepr at e
    split at e
    · next p ep =>
      split at e
      · next hc =>
        cases e
        exact ⟨v, p, rfl, r.dp sh _ _ _ _ ep, hc.1, hc.2.1, hc.2.2, q _ H (Tr.refl _ _) sh (.str _)⟩
      · cases e
    · cases e
  · cases e
theorem se_repr (bx : BX T W X k) (hm : X.mg "repr" = none) (ha : SA T W X [a] ma) (hg : Gl X "repr" := by rfl) (he : starEach [a] X.env = (false, eval a X.env) :: starEach [] X.env := by rfl) (hpl : (backTo pos (starEach [] X.env)).any (·.1) = false := by rfl) :
    SE T W X (.Call (.Name "repr" p) [a] [] pos) (mCB cRepr ma) := se_cb (cr_repr bx.hr.gd bx.hu) sc_repr hm ha hg (by decide +kernel) (by decide) (by decide) he hpl
end

/-! ### xs[::e] where e comes to -1 -/
def tBack (K : PySem.W.Frag) (te : TE) (ts : TO) : TE := fun σ H Q => te σ H fun x H1 => ts σ H1 fun o H2 => o = some (-1) ∧ ∃ a xs, x = .ref a ∧ SqL K H2 a xs ∧ ∀ p, H2 p = none → Q (.ref p) (upd H2 p (.lst xs.reverse))
theorem pe_back {X : Cx} {e st : Expr} {te : TE} {ts : TO} {p3 pos : Pos} (he : PE X e te) (hs : PO X (some st) ts) : PE X (.Subscript e (.Slice none none (some st) p3) pos) (tBack X.K te ts) where
  run pins s σ H Q I h := by
    refine Subscript_ (thn (he.run pins s σ H _ I h) fun v s1 ⟨x, H1, I1, r1, q1⟩ => ?_)
    refine wpAny_Slice (thn (po_none.run pins s1 σ H1 (fun o J => o = none ∧ J = H1) I1 ⟨rfl, rfl⟩) fun vl s2 ⟨l, J, I2, pl, z1, z2⟩ => ?_)
    cases z1; cases z2
    refine thn (po_none.run pins s2 σ H1 (fun o J => o = none ∧ J = H1) I2 ⟨rfl, rfl⟩) fun vu s3 ⟨u, J, I3, pu, z1, z2⟩ => ?_
    cases z1; cases z2
    refine thn (hs.run pins s3 σ H1 _ I3 q1) fun vs s4 ⟨o, J, I4, ps, z1, a, xs, z2, z3, q⟩ => ?_
    cases z1; cases z2
    cases (show v = Value.ref a from r1)
    have I5 : Inv X pins σ J { s4 with heap := s4.heap.push { cls := .type "slice", data := .fields #[vl, vu, vs] } } := I4.kept (t' := s4.toks) fun _ _ z => Heap.get?_push_of_some _ z
    obtain ⟨its, rv, at_, z4⟩ := I5.list z3
    show wpAny _ _ (subscriptTail e (.Slice none none (some st) p3) (.ref a) (.ref s4.heap.objs.size)) _ _ _
    refine tail_any (ops := [.ref a, .ref s4.heap.objs.size]) at_.isList.typeIs PySem.slot_list_getitem.lookup ?_ (by with_unfolding_all rfl)
    refine wpAny_getItem_list_slice at_.isList (Heap.IsSliceOf.new _ vl vu vs) pl pu ps (by decide) ?_ (by rw [List.size_toArray, ← rv.length]; exact z4)
    rw [PySem.W.krv_pick]
    exact ⟨.ref _, _, I5.laid (t' := s4.toks) (o := .lst xs.reverse) (fun _ _ z => Heap.get?_push_of_some _ z) (Nat.le_refl _) ⟨by rw [List.length_reverse]; exact z4, _, 0, rv.reverse, Heap.get?_push_size _ rfl⟩, rfl, q _ (I5.hok.fresh (Nat.le_refl _))⟩
def mBack (ma ms : ME) : ME := fun s h => (ma s h).bind fun x h1 => (ms s h1).bind fun o h2 => match o with
  | .int i => if i = -1 then lift ((lsOf h2 x).map fun ds => .lst ds.reverse) h2 else .no
  | _ => .no
section
variable {T : Tab} {W : WX} {X : Cx} {p p2 pos pos2 : Pos} {a st : Expr} {ma ms : ME}
theorem se_back (ha : SE T W X a ma) (hs : SE T W X st ms) : SE T W X (.Subscript a (.Slice none none (some st) p2) pos) (mBack ma ms) := by
  obtain ⟨ta, pa, sa⟩ := ha
  obtain ⟨ts, ps, ss⟩ := hs
  refine ⟨_, pe_back pa (po_some ps), fun g α σ H s h sh sl Q po => ?_⟩
  refine sa.run sh sl po fun x dx α1 H1 h1 t1 sh1 sl1 r1 po1 => ?_
  refine ss.run sh1 sl1 po1 fun y dy α2 H2 h2 t2 sh2 sl2 r2 po2 => ?_
  split at po2
  · next i =>
    split at po2
    · next hi =>
      subst hi
      cases r2
      unfold lift at po2
      split at po2
      · next d e =>
        simp only [Option.map_eq_some_iff] at e
        obtain ⟨ds, e1, rfl⟩ := e
        obtain ⟨b, xs, rfl, hb, rr⟩ := (r1.tr t2).lsOf sh2 e1
        exact ⟨-1, rfl, rfl, b, xs, rfl, hb, fun p hn => po2 _ _ α2 (Tr.new hn) (sh2.new hn) (Rep.newL sh2 rr.reverse hn)⟩
      · exact po2.elim
    · exact po2.elim
  · exact po2.elim
/-- tuple(reversed(x)), x a list -/
def mTRev (ma : ME) : ME := fun s h => (ma s h).bind fun x h1 => lift ((lsOf h1 x).map fun ds => .tup ds.reverse) h1
theorem se_tupRev (hm : X.mg "tuple" = none) (hm2 : X.mg "reversed" = none) (ha : SE T W X a ma) (hc : X.calm = true := by rfl) (hg : Gl X "tuple" := by rfl) (hg2 : Gl X "reversed" := by rfl) (he : starEach [a] X.env = (false, eval a X.env) :: starEach [] X.env := by rfl)
    (he2 : starEach [.Call (.Name "reversed" p2) [a] [] pos2] X.env = (false, eval (.Call (.Name "reversed" p2) [a] [] pos2) X.env) :: starEach [] X.env := by rfl) :
    SE T W X (.Call (.Name "tuple" p) [.Call (.Name "reversed" p2) [a] [] pos2] [] pos) (mTRev ma) := by
  obtain ⟨ta, pa, sa⟩ := ha
  refine ⟨_, RT.pe_tupRev hc hg hm hg2 hm2 pa he he2, fun g α σ H s h sh sl Q po => ?_⟩
  refine sa.run sh sl po fun x dx α1 H1 h1 t1 sh1 sl1 r1 po1 => ?_
  unfold lift at po1
  split at po1
  · next d e =>
    simp only [Option.map_eq_some_iff] at e
    obtain ⟨ds, e1, rfl⟩ := e
    obtain ⟨b, xs, rfl, hb, rr⟩ := r1.lsOf sh1 e1
    exact ⟨b, xs, rfl, hb, fun p hn => po1 _ _ α1 (Tr.new hn) (sh1.new hn) (Rep.newT sh1 rr.reverse hn)⟩
  · exact po1.elim
end
end Py

set_option Elab.async false
set_option linter.all false
set_option maxRecDepth 100000
namespace Py
open PySem PySem.Spec PyProof.Rows L2

def mPart (m : ME) : ME := fun s h => (m s h).bind fun d h1 => match d with | .int i => .ok (.int i) h1 | _ => .no

/-! ### e.f = value -/
def putD (f : Str) (y : D) : Xfs → Xfs
  | [] => [(f, y)]
  | (n, x) :: r => if n = f then (n, y) :: r else (n, x) :: putD f y r
def sSetF (cs : List Nat) (f : Str) (mo me : ME) : MS := fun s h => (me s h).bindS s fun y h1 => (mo s h1).bindS s fun x h2 => match x with
  | .cell n => (match h2[n]? with
    | some (.ob c fs) => if c ∈ cs ∧ fs.length < 1000 then .nx s (h2.set n (.ob c (putD f y fs))) else .no
    | _ => .no)
  | _ => .no
section
variable {T : Tab} {K : PySem.W.Frag} {α : List Addr} {H : Hp} {hp : CH}
theorem put_rep (f : Str) {v : V} {d : D} (r : Rep T K α H v d) : ∀ {xs : List (Str × V)} {fs : Xfs}, xs.map (·.1) = fs.map (·.1) → Reps T K α H (xs.map (·.2)) (fs.map (·.2)) →
    (putF f v xs).map (·.1) = (putD f d fs).map (·.1) ∧ Reps T K α H ((putF f v xs).map (·.2)) ((putD f d fs).map (·.2))
  | [], [], _, _ => ⟨rfl, .cons r .nil⟩
  | [], _ :: _, e, _ => by cases e
  | _ :: _, [], e, _ => by cases e
  | (n, x) :: xs, (m, y) :: fs, e, rs => by
    simp only [List.map_cons, List.cons.injEq] at e
    obtain ⟨e1, e2⟩ := e
    subst e1
    cases rs with
    | cons r1 r2 =>
      have ih := put_rep f r e2 r2
      unfold putF putD
      by_cases hn : n = f
      · rw [if_pos hn, if_pos hn]
        exact ⟨by simp [e2], .cons r r2⟩
      · rw [if_neg hn, if_neg hn]
        exact ⟨by simp [ih.1], .cons r1 ih.2⟩
end
section
variable {T : Tab} {W : WX} {X : Cx} {pos pos' : Pos} {o e : Expr} {mo me : ME} {f : Str} {cs : List Nat}
theorem ss_setF (hc : HasF T X.K cs f) (ho : SE T W X o mo) (he : SE T W X e me) (hs : swapsWith e (some (.Attribute o f pos')) pos.line X.env = pure false := by rfl) : SS T W X (.Assign [.Attribute o f pos'] e pos) (sSetF cs f mo me) := by
  obtain ⟨to, po', so⟩ := ho
  obtain ⟨te, pe, se⟩ := he
  refine ⟨_, ps_fld po' pe hs, fun g α σ H s h sh sl D po => ?_⟩
  refine se.runS sh sl po fun y dy α1 H1 h1 t1 sh1 sl1 r1 po1 => ?_
  refine so.runS sh1 sl1 po1 fun x dx α2 H2 h2 t2 sh2 sl2 r2 po2 => ?_
  split at po2
  · next n =>
    split at po2
    · next c fs e1 =>
      split at po2
      · next hx =>
        cases r2 with
        | cell ha =>
          obtain ⟨dd, xs, e2, e3, e4⟩ := sh2.get e1 ha
          have ln : xs.length = fs.length := by simpa using congrArg List.length e3
          refine ⟨_, _, dd, xs, rfl, e2, (hc c hx.1).1, (hc c hx.1).2, by rw [ln]; exact hx.2, ?_⟩
          have t3 : Tr α2 H2 α2 (upd H2 _ (.ins (T.cls c) dd (putF f y xs))) := Tr.set ha e2
          obtain ⟨q1, q2⟩ := put_rep f (r1.tr t2) e3 e4
          have q2' := q2.tr t3
          exact po2 σ _ α2 t3 (sh2.set (c := .ob c (putD f dy fs)) ha e2 ⟨dd, _, upd_same, q1, q2'⟩) (sl2.tr t3)
      · exact po2.elim
    · exact po2.elim
  · exact po2.elim
end

/-! ### f(k = v, ..) -/
def SK (T : Tab) (W : WX) (X : Cx) (kws : List Keyword) (m : MA) : Prop := ∃ t, PK X kws t ∧ SndA T X.K W t m
section
variable {T : Tab} {W : WX} {X : Cx} {p pos kpos : Pos} {e : Expr} {kws : List Keyword} {me : ME} {mk : MA} {nm : Option Str}
theorem sk_nil : SK T W X [] mNil := ⟨_, pk_nil, fun g α σ H s h sh sl Q po => po [] H α (Tr.refl α H) sh .nil⟩
theorem sk_cons (ha : SE T W X e me) (hr : SK T W X kws mk) : SK T W X (⟨nm, e, kpos⟩ :: kws) (mCons me mk) := by
  obtain ⟨ta, pa, sa⟩ := ha
  obtain ⟨tb, pb, sb⟩ := hr
  refine ⟨_, pk_cons pa pb, fun g α σ H s h sh sl Q po => ?_⟩
  refine sa.runA sh sl po fun x dx α1 H1 h1 t1 sh1 sl1 r1 po1 => ?_
  refine sb.runA sh1 sl1 po1 fun xs ds α2 H2 h2 t2 sh2 sl2 r2 po2 => ?_
  exact po2 _ H2 α2 (Tr.refl _ _) sh2 (.cons (r1.tr t2) r2)
end
/-- places of the parameters among the keywords -/
def pick {β : Type} (l : List Nat) (xs : List β) : List β := l.filterMap fun i => xs[i]?
section
variable {T : Tab} {K : PySem.W.Frag} {α : List Addr} {H : Hp}
theorem Reps.pick {vs : List V} {ds : List D} (r : Reps T K α H vs ds) : ∀ l : List Nat, Reps T K α H (pick l vs) (pick l ds)
  | [] => .nil
  | i :: l => by
    have ih := Reps.pick r l
    unfold Py.pick at ih ⊢
    cases e : ds[i]? with
    | none =>
      have e2 : vs[i]? = none := by
        rw [List.getElem?_eq_none_iff] at e ⊢
        rw [r.length]
        exact e
      rw [List.filterMap_cons_none e, List.filterMap_cons_none e2]
      exact ih
    | some d =>
      obtain ⟨v, e2, r2⟩ := r.get e
      rw [List.filterMap_cons_some e, List.filterMap_cons_some e2]
      exact .cons r2 ih
theorem vals_pick {vs : List V} {us : List Value} (r : Vals vs us) : ∀ l : List Nat, Vals (pick l vs) (pick l us)
  | [] => .nil
  | i :: l => by
    have ih := vals_pick r l
    unfold Py.pick at ih ⊢
    cases e : vs[i]? with
    | none =>
      have e2 : us[i]? = none := by
        rw [List.getElem?_eq_none_iff] at e ⊢
        rw [← r.length]
        exact e
      rw [List.filterMap_cons_none e, List.filterMap_cons_none e2]
      exact ih
    | some d =>
      obtain ⟨v, e2, r2⟩ := r.get e
      rw [List.filterMap_cons_some e, List.filterMap_cons_some e2]
      exact .cons r2 ih
end
structure FnK (T : Tab) (P : Program) (w : World) (K : PySem.W.Frag) (mg : Str → Option Value) (base : Heap) (k : Nat) (x : Str) (n : Nat) (ks : List Str) (l : List Nat) (mf : MF) : Prop where
  ex : ∃ (f : Addr) (fd : FuncData) (ps : List Str), FnG P w K mg base (L2.CX P w) k f fd ps (spM T K n mf) ∧ mg x = some (.ref f) ∧ PySem.W.keepIn K (.ref f) = true ∧ KB0 K fd ps ks (pick l) (pick l)
def mCallK (n : Nat) (mf : MF) (l : List Nat) (mk : MA) : ME := fun s h => (mk s h).bind fun ds h1 => ar n mf (pick l ds) h1
section
variable {T : Tab} {W : WX} {X : Cx} {p pos : Pos} {kws : List Keyword} {mk : MA} {k n : Nat} {x : Str} {ks : List Str} {l : List Nat} {mf : MF}
theorem se_callK (F : FnK T X.prog X.w X.K X.mg X.base k x n ks l mf) (tk : Takes X W) (hr : Rm k X.A) (ha : SK T W X kws mk) (hg : Gl X x := by rfl) (hall : (backToKw pos (keywordEach kws X.env)).all (·.1.isSome) = true := by rfl)
    (hks : (backToKw pos (keywordEach kws X.env)).filterMap (·.1) = ks := by rfl) (hdb : (x == ("__debug__" : Str)) = false := by decide) (pl : ((backTo pos (starEach [] X.env)).any (·.1) || (backToKw pos (keywordEach kws X.env)).any (·.1.isNone)) = false := by rfl) :
    SE T W X (.Call (.Name x p) [] kws pos) (mCallK n mf l mk) := by
  obtain ⟨ta, pa, sa⟩ := ha
  obtain ⟨f, fd, ps, F1, hm, hk, hb⟩ := F.ex
  refine ⟨_, pe_callGK F1 hr hg hm hk hb (fun σ => passAt tk σ) pa hall hks hdb pl, fun g α σ H s h sh sl Q po => ?_⟩
  refine sa.run sh sl po fun xs ds α1 H1 h1 t1 sh1 sl1 r1 po1 => ?_
  exact ⟨g, α1, h1, pick l ds, sh1, r1.pick l, po1.call⟩
/-- f() -/
theorem se_call0 {dd : List D} (F : FnM T X.prog X.w X.K X.mg X.base k x n dd mf) (tk : Takes X W) (hr : Rm k X.A) (hg : Gl X x := by rfl) (hdb : (x == ("__debug__" : Str)) = false := by decide) : SE T W X (.Call (.Name x p) [] [] pos) (mCall n mf dd mNil) := by
  obtain ⟨f, fd, ps, dvs, dvu, F1, hm, hk, hb, hv, hd⟩ := F.ex
  refine ⟨_, pe_callG0 F1 hr hg hm hk hb hv (fun σ => passAt tk σ) hdb, fun g α σ H s h sh sl Q po => ?_⟩
  exact ⟨g, α, h, [] ++ dd, sh, (by simpa using hd g α H), po.call⟩
end

/-! ### defs with defaults -/
section
variable {T : Tab} {P : Program} {w : World} {K : PySem.W.Frag} {mg : Str → Option Value} {base : Heap}
theorem ok_defD {x qual : Str} {pr : Arguments} {bd : List Stmt} {sc : Scope} {dvs : List V} {kws : List (Str × V)} {f : Addr} {fd : FuncData} {N ps : List Str} {k n : Nat} {mf : MF} {m : MS} (F : FunD K x qual pr bd sc dvs kws f fd) (S : FnScope N ps sc) (hn : ps.length = n)
    (body : ∀ (cdv : Value) (A : Around) (outer : List Env) (s : Shared) (H : Hp) (E : XK), BX T (fun cls d _ H => E cls d H) (cxOf (L2.CX P w) P w K mg base N qual sc f cdv A outer s H E) k →
      SSs T (fun cls d _ H => E cls d H) (cxOf (L2.CX P w) P w K mg base N qual sc f cdv A outer s H E) bd m)
    (me : Meets' n N.length m mf) : FnG P w K mg base (L2.CX P w) (k + 1) f fd ps (spM T K n mf) := by
  refine funGD F S (fun vs H Q E h => by rw [hn]; exact spM_len h) fun cdv A outer s H vs Q E hr h => ?_
  obtain ⟨g, α, hp, ds, sh, rs, po⟩ := h
  have bx : BX T (fun cls d _ H => E cls d H) (cxOf (L2.CX P w) P w K mg base N qual sc f cdv A outer s H E) k := ⟨takes_of rfl rfl rfl rfl, fun _ _ _ _ _ z => z, passes_of rfl, hr⟩
  obtain ⟨t, p, q⟩ := body cdv A outer s H E bx
  refine ⟨t, p, q g α _ H _ hp sh (sl_start rs N) _ ?_⟩
  unfold ar at po
  split at po
  · next hl =>
    have lo := rs.low
    rw [sh.len] at lo
    have hne : mf ds hp ≠ .no := fun z => by rw [z] at po; exact po
    have dr := me ds hp hl lo sh.low hne
    generalize m (startD N.length ds) hp = o at dr
    generalize hr' : mf ds hp = r at dr po hne
    cases r with
    | no => exact absurd rfl hne
    | ok d h1 =>
      cases o with
      | nx s' h' =>
        obtain ⟨rfl, to⟩ := dr
        intro σ' H' α' t' sh' sl'
        obtain ⟨α1, β, rfl, l, sh1, tr⟩ := to.sh t' sh sh'
        exact po _ H' α1 tr sh1 .non
      | rt d' h' =>
        obtain ⟨to, fz⟩ := dr
        intro v H' α' t' sh' r'
        obtain ⟨α1, β, rfl, l, sh1, tr⟩ := to.sh t' sh sh'
        exact po v H' α1 tr sh1 (fz.rep sh' l r')
      | _ => exact dr.elim
    | ex c gs h1 =>
      cases o with
      | ex c' fs s' h' =>
        obtain ⟨rfl, to, fz⟩ := dr
        intro cls dx σ' H' α' t' sh' sl' x'
        obtain ⟨α1, β, rfl, l, sh1, tr⟩ := to.sh t' sh sh'
        exact po cls dx H' α1 tr sh1 (fz.rep sh' l x')
      | _ => exact dr.elim
  · exact po.elim
end
end Py

set_option Elab.async false
set_option linter.all false
set_option maxRecDepth 100000
namespace Py
open PySem PySem.Spec PyProof.Rows L2

/-! ### the head -/
theorem law_callG {P : Program} {w : World} {K : PySem.W.Frag} {mg mb : Str → Option Value} {CX : CXT} {k : Nat} {fa a : Addr} {fd : FuncData} {x : Str} {sp : Sp} {t : Shared} {vs : List Value} {ns : List Int}
    (inn : K.In t.heap) (gl : t.heap.Ns mainGlobals mg) (bl : t.heap.Ns builtinsNs mb) (bb : ∀ y : Str, y ≠ "__name__" → mb y = bootBuiltins y) (nol : t.heap.NoLimit) (gn : t.gens = #[])
    (ob : t.heap.get? a = some { cls := .type "list", data := .seq vs.toArray }) (ii : IntsAre vs ns) (sz : ns.length ≤ sizeLine) (rm : Rm k callerA)
    (F : ∀ B : Heap, K.In B → B.Ns mainGlobals mg → FnG P w K mg B CX k fa fd [x] sp) (bi : ∀ (s : Shared) (u : Value), BindsTo s fd ⟨[u], []⟩ [(x, u)])
    (pr : ∀ H : Hp, Only H → SqL K H a (ns.map V.int) → sp [.ref a] H (fun v _ => v = .bl true) fun _ _ _ => False) (out : ∀ H e s', CX [] H t (fun _ _ _ => False) e s' → False) :
    codeAny (model P w) callerA (.call (.ref fa) ⟨[.ref a], []⟩) (fun r s' => r = .ok (.ret (.bool true)) ∧ OldK t.heap s'.heap ∧ s'.os = t.os ∧ AllBare s'.gens) t := by
  have vv := L2.vals_ints ii
  have nv := ii.length
  have main : ∀ J : Hp, Only J → SqL K J a (ns.map V.int) → HOk P w J t.heap → (∀ b, J b ≠ none → b = a ∧ K.lookup a = none) →
      codeAny (model P w) callerA (.call (.ref fa) ⟨[.ref a], []⟩) (fun r s' => r = .ok (.ret (.bool true)) ∧ OldK t.heap s'.heap ∧ s'.os = t.os ∧ AllBare s'.gens) t := by
    intro J on sq jok ja
    have keepNs : ∀ {b : Addr} {m : Str → Option Value}, t.heap.Ns b m → (hidT t.heap J).Ns b m := by
      intro b m ⟨o, es, ep, z1, z2, z3⟩
      refine ⟨o, es, ep, hidT_get z1 ?_, z2, z3⟩
      cases q : J b with
      | none => rfl
      | some u =>
        obtain ⟨rfl, _⟩ := ja b (by rw [q]; exact fun z => by cases z)
        rw [ob] at z1
        cases z1
        cases z2
    have innB : K.In (hidT t.heap J) := by
      intro b o z
      refine hidT_get (inn b o z) ?_
      cases q : J b with
      | none => rfl
      | some u =>
        obtain ⟨rfl, z2⟩ := ja b (by rw [q]; exact fun z => by cases z)
        rw [z2] at z
        cases z
    obtain ⟨mc, l1, l2⟩ := nol
    have md : Mod K mg (hidT t.heap J) := ⟨innB, keepNs gl, ⟨mb, keepNs bl, bb⟩, mc, keepNs l1, l2⟩
    have ev : Env0 P w K mg (hidT t.heap J) callerA [] t J := ⟨rfl, md, fun b o z => of_hidT z, Nat.le_of_eq (hidT_size _ _), trivial, fun b hb => absurd hb List.not_mem_nil, jok, .of_eq gn⟩
    refine codeAny_mono ((F _ innB (keepNs gl)).run callerA [] t J ⟨[.ref a], []⟩ [.ref a] [.ref a] _ _ rm ev (bi t (.ref a)) (.cons rfl .nil) (pr J on sq)) fun r s' z => ?_
    match r, z with
    | .error e, z => exact (out J e s' z).elim
    | .ok (.ret u), ⟨v, J', z1, z2, z3, z4, z5, z6⟩ =>
      cases (show v = .bl true from z6)
      cases (show u = Value.bool true from z5)
      refine ⟨rfl, OldK.of_keep fun b o e => ?_, z1, z2⟩
      cases q : J b with
      | none => exact z3.keep b o e q List.not_mem_nil (by simp)
      | some u =>
        rcases on b with y | ⟨oo, xs, y⟩
        · rw [q] at y; cases y
        · have y2 := z3.frzs b oo _ y
          obtain ⟨e1, _⟩ := jok b _ y
          obtain ⟨e2, _⟩ := z4 b _ y2
          rw [e] at e1
          cases e1
          exact e2
  by_cases hk : K.lookup a = none
  · refine main (fun b => if b = a then some (.frz { cls := .type "list", data := .seq vs.toArray } (.lst (ns.map V.int))) else none) ?_ (.inl (.inr ⟨_, if_pos rfl⟩)) ?_ ?_
    · intro b
      by_cases hb : b = a
      · exact .inr ⟨_, _, if_pos hb⟩
      · exact .inl (if_neg hb)
    · intro b u z
      by_cases hb : b = a
      · have z := (if_pos hb).symm.trans z
        cases z
        subst hb
        exact ⟨ob, by rw [List.length_map]; exact sz, vs, _, vv, ob⟩
      · have z := (if_neg hb).symm.trans z
        cases z
    · intro b z
      by_cases hb : b = a
      · exact ⟨hb, hk⟩
      · exact absurd (if_neg hb) z
  · obtain ⟨o, ho⟩ := Option.ne_none_iff_exists'.mp hk
    have e := inn a o ho
    rw [ob] at e
    cases e
    refine main (fun _ => none) (fun _ => .inl rfl) (.inr ⟨_, vs.toArray, _, ho, rfl, rfl, rfl, by rw [List.size_toArray, nv]; exact sz, by simpa using vv⟩) (fun b u z => by cases z) fun b z => absurd rfl z
theorem walk_G {l : PySem.W.OpenLaw} {n k : Nat} {q : Program} {loose : List Str} {XP : (Str → Option Value) → Heap → Prop} {YP : World → Heap → Prop} {d : DefRec} {K : Params → PySem.W.Frag} {CX : World → CXT} {sp : World → Sp} {x : Str}
    (hn : l.most = some n) (nz : n ≤ sizeLine) (df : d.params.defaults = []) (rm : Rm k callerA) (inn : ∀ (w : World) (h : Heap), YP w h → (K w.params).In h)
    (F : ∀ (w : World) (mg : Str → Option Value) (fa : Addr) (h : Heap), (K w.params).In h → h.Ns mainGlobals mg → mg d.name = some (.ref fa) →
      ∃ fd : FuncData, (∀ (s : Shared) (u : Value), BindsTo s fd ⟨[u], []⟩ [(x, u)]) ∧ ∀ B : Heap, (K w.params).In B → B.Ns mainGlobals mg → FnG l.prog w (K w.params) mg B (CX w) k fa fd [x] (sp w))
    (pr : ∀ (w : World) (H : Hp) (a : Addr) (ns : List Int), ns.length ≤ n → Only H → SqL (K w.params) H a (ns.map V.int) → sp w [.ref a] H (fun v _ => v = .bl true) fun _ _ _ => False)
    (out : ∀ (w : World) (H : Hp) (s : Shared) (e : Value) (s' : Shared), CX w [] H s (fun _ _ _ => False) e s' → False) :
    PySem.W.WalkO q loose XP YP l.row.toRowW d [] (fun f vs => PySem.call f vs) := by
  refine Att.attach_call hn df fun w s0 s1 mg mb fa o pm cd doc a vs ns G Y _ _ _ hm hb hi hl hg => ?_
  have kin := inn w _ Y
  obtain ⟨fd, b, f⟩ := F w mg fa _ kin G.T.g hm
  exact law_callG kin G.T.g G.T.b G.T.builtins G.T.nolimit hg hb hi (Nat.le_trans hl nz) rm f b (fun H on sq => pr w H a ns hl on sq) fun H e s' => out w H s1 e s'
/-- what the law's def has to mean -/
theorem law_end {T : Tab} {K : PySem.W.Frag} {mf : MF} {ns : List Int} {h : CH} (e : mf [.scr ns] [] = .ok (.bl true) h) (ht : T.hid = []) {H : Hp} {a : Addr} (sq : SqL K H a (ns.map V.int)) : spM T K 1 mf [.ref a] H (fun v _ => v = .bl true) fun _ _ _ => False := by
  refine ⟨[], [], [], [.scr ns], ⟨List.nodup_nil, rfl, fun n a c z _ => by simp at z, fun a z => absurd z List.not_mem_nil⟩, .cons (.scr ?_) .nil, ?_⟩
  · rcases sq with sq | sq
    · exact .inl ⟨sq, List.not_mem_nil, List.not_mem_nil⟩
    · exact .inr sq
  · unfold ar
    rw [if_pos (show [D.scr ns].length = 1 from rfl), e]
    intro v H' α' _ _ r
    cases r
    rfl
theorem out_never {P : Program} {w : World} {H : Hp} {s : Shared} {e : Value} {s' : Shared} (h : L2.CX P w [] H s (fun _ _ _ => False) e s') : False := by
  obtain ⟨_, _, _, _, _, _, _, _, _, _, _, _, z⟩ := h
  exact z
end Py

set_option Elab.async false
set_option linter.all false
set_option maxRecDepth 100000
namespace Py
open PySem PySem.Spec PyProof.Rows L2

/-! ### plain helpers for what a body means -/
theorem To.same (h : CH) : To h h h := ⟨⟨[], by simp⟩, Nat.le_refl _, fun c m => .inl m⟩
theorem To.junk (h j : CH) : To h (h ++ j) h := ⟨⟨j, rfl⟩, Nat.le_refl _, fun c m => .inl m⟩
theorem dr_rt {h : CH} {d : D} (l : d.low h.length = true) : Drops h (.rt d h) (.ok d h) := ⟨To.same h, .low l⟩
theorem dr_rtj {h j : CH} {d : D} (l : d.low h.length = true) : Drops h (.rt d (h ++ j)) (.ok d h) := ⟨To.junk h j, .low l⟩
theorem dr_fz {h j : CH} {d' d : D} (l : Fz (h ++ j) h.length d' d) : Drops h (.rt d' (h ++ j)) (.ok d h) := ⟨To.junk h j, l⟩
theorem dr_nx {h : CH} {s : SLS} : Drops h (.nx s h) (.ok .non h) := ⟨rfl, To.same h⟩
theorem lows_mem {n : Nat} : ∀ {ds : List D}, D.lows n ds = true ↔ ∀ d ∈ ds, D.low n d = true
  | [] => by simp [D.lows]
  | d :: ds => by simp [D.lows, lows_mem (ds := ds)]
theorem lows_ints {n : Nat} (ns : List Int) : D.lows n (ns.map D.int) = true := by
  rw [lows_mem]
  intro d m
  obtain ⟨i, _, rfl⟩ := List.mem_map.mp m
  rfl
theorem isK_ii : isK "int" "int" = some true := by decide +kernel
theorem isK_ib : isK "int" "bool" = some false := by decide +kernel
theorem isK_ll : isK "list" "list" = some true := by decide +kernel
theorem isK_lt : isK "list" "tuple" = some false := by decide +kernel
theorem isK_tl : isK "tuple" "list" = some false := by decide +kernel
theorem isK_tt : isK "tuple" "tuple" = some true := by decide +kernel
theorem fEqD_int (h : CH) (i j : Int) : fEqD h (.int i) (.int j) = some (.bl (decide (i = j))) := by
  simp [fEqD, eqD, toPy, SeqAt.shaped, PyData.eqv, PyData.canLay0, PyData.depth]
  by_cases e : i = j <;> simp [e]
theorem fNeD_int (h : CH) (i j : Int) : fNeD h (.int i) (.int j) = some (.bl (!decide (i = j))) := by
  simp [fNeD, eqD, toPy, SeqAt.shaped, PyData.eqv, PyData.canLay0, PyData.depth]
  by_cases e : i = j <;> simp [e]
theorem fAdd_int (h : CH) (i j : Int) : fAdd h (.int i) (.int j) = some (.int (i + j)) := rfl
theorem fSub_int (h : CH) (i j : Int) : fSub h (.int i) (.int j) = some (.int (i - j)) := rfl
theorem fLt_int (h : CH) (i j : Int) : fLt h (.int i) (.int j) = some (.bl (decide (i < j))) := rfl
theorem fLe_int (h : CH) (i j : Int) : fLe h (.int i) (.int j) = some (.bl (decide (i ≤ j))) := rfl
theorem fGt_int (h : CH) (i j : Int) : fGt h (.int i) (.int j) = some (.bl (decide (j < i))) := rfl
theorem fGe_int (h : CH) (i j : Int) : fGe h (.int i) (.int j) = some (.bl (decide (j ≤ i))) := rfl
theorem fDiv_int (h : CH) {i j : Int} (c : 0 < j ∧ j.natAbs.log2 < 9000) : fDiv h (.int i) (.int j) = some (.int (i / j)) := by
  simp [fDiv, fInt, c]
theorem fMod_int (h : CH) {i j : Int} (c : 0 < j) : fMod h (.int i) (.int j) = some (.int (i % j)) := by
  simp [fMod, fInt, c]
theorem fMul_int (h : CH) {i j : Int} (c : i.natAbs.log2 + j.natAbs.log2 < 1000000) : fMul h (.int i) (.int j) = some (.int (i * j)) := by
  simp [fMul, fOr, fMulI, fInt, c]
theorem log2_small {i : Int} (h : i.natAbs < 2 ^ 8000) : i.natAbs.log2 < 9000 := by
  by_cases z : i.natAbs = 0
  · rw [z]; decide
  · have := (Nat.log2_lt z).mpr h
    omega
theorem fDiv_sm (h : CH) {i j : Int} (c : 0 < j) (b : j.natAbs < 2 ^ 8000) : fDiv h (.int i) (.int j) = some (.int (i / j)) := fDiv_int h ⟨c, log2_small b⟩
theorem fMul_sm (h : CH) {i j : Int} (a : i.natAbs < 2 ^ 8000) (b : j.natAbs < 2 ^ 8000) : fMul h (.int i) (.int j) = some (.int (i * j)) := fMul_int h (by have := log2_small a; have := log2_small b; omega)
/-! ### numbers as data -/
abbrev dN (n : Nat) : D := .int (n : Int)
abbrev tN (ns : List Nat) : D := .tup (ns.map dN)
def natsOf : List D → Option (List Nat)
  | [] => some []
  | .int i :: r => if 0 ≤ i then (natsOf r).map (i.toNat :: ·) else none
  | _ => none
theorem natsOf_eq : ∀ {ds : List D} {ns : List Nat}, natsOf ds = some ns → ds = ns.map dN
  | [], ns, e => by cases e; rfl
  | .int i :: r, ns, e => by
    unfold natsOf at e
    split at e
    · next p =>
      simp only [Option.map_eq_some_iff] at e
      obtain ⟨ms, e1, rfl⟩ := e
      rw [natsOf_eq e1, List.map_cons]
      have z : ((i.toNat : Nat) : Int) = i := Int.toNat_of_nonneg p
      show D.int i :: _ = D.int ((i.toNat : Nat) : Int) :: _
      rw [z]
    · cases e
  | .non :: _, _, e | .bl _ :: _, _, e | .str _ :: _, _, e | .tup _ :: _, _, e | .lst _ :: _, _, e | .obj _ _ _ :: _, _, e | .cell _ :: _, _, e | .fn _ :: _, _, e | .scr _ :: _, _, e => by cases e
theorem natsOf_map : ∀ ns : List Nat, natsOf (ns.map dN) = some ns
  | [] => rfl
  | n :: ns => by
    rw [List.map_cons]
    show (if (0 : Int) ≤ (n : Int) then (natsOf (ns.map dN)).map (((n : Int)).toNat :: ·) else none) = _
    rw [if_pos (Int.natCast_nonneg n), natsOf_map ns]
    simp
theorem lows_nats {n : Nat} (ns : List Nat) : D.lows n (ns.map dN) = true := by
  rw [lows_mem]
  intro d m
  obtain ⟨i, _, rfl⟩ := List.mem_map.mp m
  rfl
theorem intsOf_nats : ∀ ns : List Nat, intsOf (ns.map dN) = some (ns.map fun (n : Nat) => (n : Int))
  | [] => rfl
  | n :: ns => by simp [intsOf, intsOf_nats ns]
theorem sum_nats : ∀ ns : List Nat, (ns.map fun (n : Nat) => (n : Int)).sum = ((ns.sum : Nat) : Int)
  | [] => rfl
  | n :: ns => by simp [sum_nats ns]
/-! ### loops -/
theorem lcK_pure {x : Src} {st : D → CH → RLc} {h : CH} {l : List D} (hx : x.items h = some l) (sz : l.length ≤ sizeLine) (f : D → D) (hf : ∀ d ∈ l, st d h = .add (f d) h) :
    ∀ k i acc, k + i = l.length → acc.length = i → lcK x st k i acc h = .ok (acc ++ (l.drop i).map f) h
  | 0, i, acc, e, e2 => by
    simp only [lcK, hx]
    rw [if_pos (by omega), List.drop_of_length_le (by omega)]
    simp
  | k + 1, i, acc, e, e2 => by
    have hi : i < l.length := by omega
    simp only [lcK, hx, List.getElem?_eq_getElem hi, hf _ (List.getElem_mem hi)]
    rw [if_pos (by omega), lcK_pure hx sz f hf k (i + 1) _ (by omega) (by simp [e2])]
    rw [List.drop_eq_getElem_cons hi, List.map_cons, List.append_assoc]
    rfl
theorem lcK_all {x : Src} {st : D → CH → RLc} {h : CH} {l : List D} (hx : x.items h = some l) (sz : l.length ≤ sizeLine) (f : D → D) (hf : ∀ d ∈ l, st d h = .add (f d) h) : lcK x st l.length 0 [] h = .ok (l.map f) h := by
  rw [lcK_pure hx sz f hf l.length 0 [] (by omega) rfl]
  simp
theorem forK_inv {x : Src} {body : D → MS} {l : List D} (S : Nat → SLS) (J : Nat → CH) (hx : ∀ i, i ≤ l.length → x.items (J i) = some l) (hs : ∀ i d, l[i]? = some d → body d (S i) (J i) = .nx (S (i + 1)) (J (i + 1)) ∨ body d (S i) (J i) = .ct (S (i + 1)) (J (i + 1))) :
    ∀ k i, k + i = l.length → forK x body k i (S i) (J i) = .nx (S l.length) (J l.length)
  | 0, i, e => by
    have hi : i = l.length := by omega
    subst hi
    simp only [forK, hx _ (Nat.le_refl _), if_true]
  | k + 1, i, e => by
    have hi : i < l.length := by omega
    simp only [forK, hx i (by omega), List.getElem?_eq_getElem hi]
    rcases hs i _ (List.getElem?_eq_getElem hi) with z | z
    · rw [z]; exact forK_inv S J hx hs k (i + 1) (by omega)
    · rw [z]; exact forK_inv S J hx hs k (i + 1) (by omega)
/-- the loop up to the turn j -/
theorem forK_to {x : Src} {body : D → MS} {l : List D} {j : Nat} (S : Nat → SLS) (J : Nat → CH) (hx : ∀ i, i ≤ j → x.items (J i) = some l) (hj : j ≤ l.length) (hs : ∀ i d, i < j → l[i]? = some d → body d (S i) (J i) = .nx (S (i + 1)) (J (i + 1)) ∨ body d (S i) (J i) = .ct (S (i + 1)) (J (i + 1))) :
    ∀ i, i ≤ j → forK x body (l.length - i) i (S i) (J i) = forK x body (l.length - j) j (S j) (J j) := by
  intro i le
  obtain ⟨n, hn⟩ : ∃ n, j = i + n := ⟨j - i, by omega⟩
  induction n generalizing i with
  | zero =>
    have e : i = j := by omega
    subst e
    rfl
  | succ n ih =>
    have hi : i < l.length := by omega
    have e : l.length - i = (l.length - (i + 1)) + 1 := by omega
    rw [e]
    simp only [forK, hx i (by omega), List.getElem?_eq_getElem hi]
    rcases hs i _ (by omega) (List.getElem?_eq_getElem hi) with z | z
    · rw [z]; exact ih (i + 1) (by omega) (by omega)
    · rw [z]; exact ih (i + 1) (by omega) (by omega)
/-! ### a mirror made of the meaning itself: what is new is dropped -/
def cutM (N : Nat) (m : MS) : MF := fun ds h => match m (startD N ds) h with
  | .rt d h' => if h.length ≤ h'.length ∧ d.low h.length = true ∧ (h'.take h.length).all (fun c => c.low h.length) = true then .ok d (h'.take h.length) else .no
  | .nx _ h' => if h.length ≤ h'.length ∧ (h'.take h.length).all (fun c => c.low h.length) = true then .ok .non (h'.take h.length) else .no
  | _ => .no
theorem to_take {h h' : CH} (l : h.length ≤ h'.length) (a : (h'.take h.length).all (fun c => c.low h.length) = true) : To h h' (h'.take h.length) := by
  have e : (h'.take h.length).length = h.length := by rw [List.length_take]; omega
  refine ⟨⟨h'.drop h.length, (List.take_append_drop _ _).symm⟩, by omega, fun c m => .inr ?_⟩
  rw [e]
  exact List.all_eq_true.mp a c m
theorem meets_cut (n N : Nat) (m : MS) : Meets' n N m (cutM N m) := by
  intro ds h hl lo bel ne
  unfold cutM at ne ⊢
  generalize m (startD N ds) h = o at ne ⊢
  cases o with
  | rt d h' =>
    simp only at ne ⊢
    split at ne
    · next c =>
      rw [if_pos c]
      have e : (h'.take h.length).length = h.length := by rw [List.length_take]; omega
      exact ⟨to_take c.1 c.2.2, .low (by rw [e]; exact c.2.1)⟩
    · exact absurd rfl ne
  | nx s h' =>
    simp only at ne ⊢
    split at ne
    · next c =>
      rw [if_pos c]
      exact ⟨rfl, to_take c.1 c.2⟩
    · exact absurd rfl ne
  | _ => exact absurd rfl ne
end Py

set_option Elab.async false
set_option linter.all false
set_option maxRecDepth 100000
namespace Py
open PySem PySem.Spec PyProof.Rows L2

theorem forK_ex {x : Src} {body : D → MS} {l : List D} (P : Nat → SLS → CH → Prop) (hx : ∀ i s h, P i s h → x.items h = some l)
    (hs : ∀ i d s h, P i s h → l[i]? = some d → ∃ s' h', (body d s h = .nx s' h' ∨ body d s h = .ct s' h') ∧ P (i + 1) s' h') :
    ∀ k i s h, k + i = l.length → P i s h → ∃ s' h', forK x body k i s h = .nx s' h' ∧ P l.length s' h'
  | 0, i, s, h, e, p => by
    have hi : i = l.length := by omega
    subst hi
    refine ⟨s, h, ?_, p⟩
    simp only [forK, hx _ s h p, if_true]
  | k + 1, i, s, h, e, p => by
    have hi : i < l.length := by omega
    simp only [forK, hx i s h p, List.getElem?_eq_getElem hi]
    obtain ⟨s', h', z, p'⟩ := hs i _ s h p (List.getElem?_eq_getElem hi)
    rcases z with z | z
    · rw [z]; exact forK_ex P hx hs k (i + 1) s' h' (by omega) p'
    · rw [z]; exact forK_ex P hx hs k (i + 1) s' h' (by omega) p'
theorem forK_all {x : Src} {body : D → MS} {l : List D} {s : SLS} {h : CH} (P : Nat → SLS → CH → Prop) (hx : ∀ i s h, P i s h → x.items h = some l)
    (hs : ∀ i d s h, P i s h → l[i]? = some d → ∃ s' h', (body d s h = .nx s' h' ∨ body d s h = .ct s' h') ∧ P (i + 1) s' h') (p : P 0 s h) : ∃ s' h', forK x body l.length 0 s h = .nx s' h' ∧ P l.length s' h' :=
  forK_ex P hx hs l.length 0 s h (by omega) p
theorem sFor_all {mi : MSrc} {g : MG} {mb : MS} {s : SLS} {h h1 : CH} {x : Src} {l : List D} (P : Nat → SLS → CH → Prop) (e : mi s h = .ok x h1) (p : P 0 s h1) (hx : ∀ i s h, P i s h → x.items h = some l)
    (hs : ∀ i d s h, P i s h → l[i]? = some d → ∃ s1 s' h', g d s = some s1 ∧ (mb s1 h = .nx s' h' ∨ mb s1 h = .ct s' h') ∧ P (i + 1) s' h') : ∃ s' h', sFor mi g mb s h = .nx s' h' ∧ P l.length s' h' := by
  unfold sFor
  rw [e]
  simp only [RSrc.bindS, hx 0 s h1 p]
  refine forK_all P hx (fun i d s h p ed => ?_) p
  obtain ⟨s1, s', h', z1, z2, z3⟩ := hs i d s h p ed
  refine ⟨s', h', ?_, z3⟩
  rw [z1]
  exact z2
/-- a loop that is left at the turn j -/
theorem sFor_rt {mi : MSrc} {g : MG} {mb : MS} {s : SLS} {h h1 : CH} {x : Src} {l : List D} (P : Nat → SLS → CH → Prop) (j : Nat) (jl : j < l.length) (v : D) (e : mi s h = .ok x h1) (p : P 0 s h1) (hx : ∀ i s h, P i s h → x.items h = some l)
    (hs : ∀ i d s h, i < j → P i s h → l[i]? = some d → ∃ s1 s' h', g d s = some s1 ∧ (mb s1 h = .nx s' h' ∨ mb s1 h = .ct s' h') ∧ P (i + 1) s' h') (hj : ∀ s h, P j s h → ∃ d s1 h', l[j]? = some d ∧ g d s = some s1 ∧ mb s1 h = .rt v h' ∧ P (j + 1) s h') : ∃ s' h', sFor mi g mb s h = .rt v h' ∧ P (j + 1) s' h' := by
  unfold sFor
  rw [e]
  simp only [RSrc.bindS, hx 0 s h1 p]
  have key : ∀ k i s h, k + i = l.length → i ≤ j → P i s h → ∃ s' h', forK x (fun d s h => match g d s with | some s' => mb s' h | none => .no) k i s h = .rt v h' ∧ P (j + 1) s' h' := by
    intro k
    induction k with
    | zero =>
      intro i s h e1 e2 p
      omega
    | succ k ih =>
      intro i s h e1 e2 p
      have hi : i < l.length := by omega
      by_cases q : i = j
      · subst q
        obtain ⟨d, s1, h', z1, z2, z3, z4⟩ := hj s h p
        simp only [forK, hx i s h p, z1, z2, z3]
        exact ⟨s, h', rfl, z4⟩
      · obtain ⟨s1, s', h', z1, z2, z3⟩ := hs i _ s h (by omega) p (List.getElem?_eq_getElem hi)
        simp only [forK, hx i s h p, List.getElem?_eq_getElem hi, z1]
        rcases z2 with z2 | z2
        · rw [z2]; exact ih (i + 1) s' h' (by omega) (by omega) z3
        · rw [z2]; exact ih (i + 1) s' h' (by omega) (by omega) z3
  exact key l.length 0 s h1 (by omega) (Nat.zero_le _) p
theorem mLc_all {β : Type} {mi : MSrc} {gm : MG} {me : ME} {vs : List Nat} {s : SLS} {h h1 : CH} {x : Src} {xs : List β} (c f : β → D) (e : mi s h = .ok x h1) (hx : x.items h1 = some (xs.map c)) (sz : xs.length ≤ sizeLine)
    (hs : ∀ y ∈ xs, ∃ s1, gm (c y) (wipeS s vs) = some s1 ∧ me s1 h1 = .ok (f y) h1) : mLc mi gm mYes me vs s h = .ok (.lst (xs.map f)) h1 := by
  unfold mLc
  rw [e]
  simp only [RSrc.bind, hx]
  have key : ∀ k i acc, k + i = xs.length → acc.length = i → lcK x (lcStep gm mYes me (wipeS s vs)) k i acc h1 = .ok (acc ++ (xs.drop i).map f) h1 := by
    intro k
    induction k with
    | zero =>
      intro i acc e1 e2
      simp only [lcK, hx]
      rw [if_pos (by rw [List.length_map]; omega), List.drop_of_length_le (by omega)]
      simp
    | succ k ih =>
      intro i acc e1 e2
      have hi : i < xs.length := by omega
      obtain ⟨s1, z1, z2⟩ := hs _ (List.getElem_mem hi)
      simp only [lcK, hx, List.getElem?_map, List.getElem?_eq_getElem hi, Option.map_some, lcStep, z1, mYes, z2]
      rw [if_pos (by omega), ih (i + 1) _ (by omega) (by simp [e2])]
      rw [List.drop_eq_getElem_cons hi, List.map_cons, List.append_assoc]
      rfl
  rw [List.length_map, key xs.length 0 [] (by omega) rfl]
  simp
theorem mLcC_all {β : Type} {mi : MSrc} {gm : MG} {me : ME} {vs : List Nat} {s : SLS} {h h1 : CH} {x : Src} {xs : List β} (c f : β → D) (e : mi s h = .ok x h1) (hx : x.items h1 = some (xs.map c)) (sz : xs.length ≤ sizeLine)
    (hs : ∀ y ∈ xs, ∃ s1, gm (c y) (wipeS s vs) = some s1 ∧ me s1 h1 = .ok (f y) h1) : mLcC mi gm mYes me vs s h = .ok (.cell h1.length) (h1 ++ [.lst (xs.map f)]) := by
  have z := mLc_all c f e hx sz hs
  unfold mLc at z
  unfold mLcC
  rw [e] at z ⊢
  simp only [RSrc.bind, hx] at z ⊢
  generalize lcK x _ _ 0 [] h1 = r at z ⊢
  cases r with
  | ok ds h2 => cases z; rfl
  | _ => cases z
/-- a sequence that does not change -/
def seqF : D → Option (List D)
  | .tup l => some l
  | .lst l => some l
  | _ => none
theorem seqF_seq {h : CH} {d : D} {l : List D} (e : seqF d = some l) : seqOf h d = some l := by
  cases d <;> first | (cases e; rfl) | cases e
theorem seqF_src {h : CH} {d : D} {l : List D} (e : seqF d = some l) : srcOf h d = some (.fix l) := by
  cases d <;> first | (cases e; rfl) | cases e
theorem seqF_len {h : CH} {d : D} {l : List D} (e : seqF d = some l) : cLen h [d] = some (.int l.length) := by
  cases d <;> first | (cases e; rfl) | cases e
theorem seqF_tup {h : CH} {d : D} {l : List D} (e : seqF d = some l) : cTuple h [d] = some (.tup l) := by
  cases d <;> first | (cases e; rfl) | cases e
theorem seqF_low {n : Nat} {d : D} {l : List D} (e : seqF d = some l) (k : d.low n = true) : D.lows n l = true := by
  cases d <;> first | (cases e; simpa only [D.low] using k) | cases e
theorem int_le_iff {a b : Nat} : decide ((a : Int) ≤ (b : Int)) = decide (a ≤ b) := by
  by_cases h : a ≤ b
  · simp [h]
  · simp [h]
theorem int_lt_iff {a b : Nat} : decide ((a : Int) < (b : Int)) = decide (a < b) := by
  by_cases h : a < b
  · simp [h]
  · simp [h]
theorem int_eq_iff {a b : Nat} : decide ((a : Int) = (b : Int)) = decide (a = b) := by
  by_cases h : a = b
  · simp [h]
  · have : ¬ ((a : Int) = b) := by omega
    simp [h, this]
theorem sz_of {n m : Nat} (h : n ≤ m) (c : m ≤ 16000000 := by decide) : n ≤ sizeLine := by
  rw [sizeLine_eq]
  omega
end Py

set_option Elab.async false
set_option linter.all false
set_option maxRecDepth 100000
namespace Py
open PySem PySem.Spec PyProof.Rows L2
theorem at_off {h C : CH} {i : Nat} {c : Cell} (e : C[i]? = some c) : (h ++ C)[h.length + i]? = some c := by
  rw [List.getElem?_append_right (by omega), show h.length + i - h.length = i from by omega]
  exact e
theorem set_off {h C : CH} {i : Nat} {c : Cell} : (h ++ C).set (h.length + i) c = h ++ C.set i c := by
  rw [List.set_append_right _ _ (by omega), show h.length + i - h.length = i from by omega]
theorem ixN_nat {n i : Nat} (h : i < n) : ixN n (i : Int) = some i := by
  unfold ixN
  rw [if_pos (Int.natCast_nonneg i), if_pos (by omega)]
  simp
theorem appAt_off {h C : CH} {i : Nat} {ds : List D} {d : D} (e : C[i]? = some (.lst ds)) (sz : ds.length < sizeLine) : appAt (h ++ C) (.cell (h.length + i)) d = some (h ++ C.set i (.lst (ds ++ [d]))) := by
  simp only [appAt, at_off e, if_pos sz, set_off]
theorem isLst_off {h C : CH} {i : Nat} {ds : List D} (e : C[i]? = some (.lst ds)) : isLst (h ++ C) (.cell (h.length + i)) = true := by
  simp only [isLst, at_off e]
theorem lstOf_off {h C : CH} {i : Nat} {ds : List D} (e : C[i]? = some (.lst ds)) : lstOf (h ++ C) (.cell (h.length + i)) = some ds := by
  simp only [lstOf, at_off e]
theorem putAt_off {h C : CH} {i j : Nat} {ds : List D} {d : D} (e : C[i]? = some (.lst ds)) (hj : j < ds.length) : putAt (h ++ C) (.cell (h.length + i)) (dN j) d = some (h ++ C.set i (.lst (ds.set j d))) := by
  simp only [putAt, at_off e, ixN_nat hj, set_off]
/-- [[] for .. in xs] -/
theorem mLc_cells {β : Type} {mi : MSrc} {gm : MG} {me : ME} {vs : List Nat} {s : SLS} {h h1 : CH} {xs : List β} (c : β → D) (g : β → Cell) (e : mi s h = .ok (.fix (xs.map c)) h1) (sz : xs.length ≤ sizeLine)
    (hs : ∀ y ∈ xs, ∃ s1, gm (c y) (wipeS s vs) = some s1 ∧ ∀ C : CH, me s1 (h1 ++ C) = .ok (.cell (h1.length + C.length)) (h1 ++ C ++ [g y])) : mLc mi gm mYes me vs s h = .ok (.lst ((List.range xs.length).map fun i => .cell (h1.length + i))) (h1 ++ xs.map g) := by
  unfold mLc
  rw [e]
  simp only [RSrc.bind, Src.items]
  have key : ∀ k i acc, k + i = xs.length → acc = (List.range i).map (fun i => D.cell (h1.length + i)) → lcK (.fix (xs.map c)) (lcStep gm mYes me (wipeS s vs)) k i acc (h1 ++ (xs.take i).map g) = .ok ((List.range xs.length).map fun i => .cell (h1.length + i)) (h1 ++ xs.map g) := by
    intro k
    induction k with
    | zero =>
      intro i acc e1 e2
      have ei : i = xs.length := by omega
      subst ei
      simp only [lcK, Src.items, List.length_map, if_true, List.take_length, e2]
    | succ k ih =>
      intro i acc e1 e2
      have hi : i < xs.length := by omega
      obtain ⟨s1, z1, z2⟩ := hs _ (List.getElem_mem hi)
      simp only [lcK, Src.items, List.getElem?_map, List.getElem?_eq_getElem hi, Option.map_some, lcStep, z1, mYes, z2]
      have la : acc.length = i := by rw [e2]; simp
      rw [if_pos (by omega)]
      have e3 : h1 ++ (xs.take i).map g ++ [g xs[i]] = h1 ++ (xs.take (i + 1)).map g := by
        rw [List.take_succ, List.getElem?_eq_getElem hi, List.map_append, List.append_assoc]
        rfl
      rw [e3]
      refine ih (i + 1) _ (by omega) ?_
      rw [e2, List.range_succ, List.map_append]
      simp [Nat.min_eq_left (Nat.le_of_lt hi)]
  have z := key xs.length 0 [] (by omega) rfl
  simp only [List.take_zero, List.map_nil, List.append_nil] at z
  rw [List.length_map, z]
theorem src_of {r : RA} {k : List D → CH → Option Src} {ds : List D} {h1 : CH} {x : Src} (e : r = .ok ds h1) (e2 : k ds h1 = some x) : r.src k = .ok x h1 := by
  subst e
  simp only [RA.src, e2]
theorem iC {m : MA} {s : SLS} {h h1 : CH} {j : Int} (e : m s h = .ok [.int j] h1) (cc : -(2 ^ 62) ≤ j ∧ j < 2 ^ 62) : iRange1 m s h = .ok (.fix (rangeD 0 j.toNat)) h1 := src_of e (if_pos cc)
theorem iR1 {m : MA} {s : SLS} {h h1 : CH} {n : Nat} (e : m s h = .ok [dN n] h1) (c : n < 100000) : iRange1 m s h = .ok (.fix (rangeD 0 n)) h1 := by
  have q := iC e ⟨by omega, by omega⟩
  rw [Int.toNat_natCast] at q
  exact q
theorem iC2 {m : MA} {s : SLS} {h h1 : CH} {i j : Int} (e : m s h = .ok [.int i, .int j] h1) (cc : -(2 ^ 62) ≤ i ∧ i < 2 ^ 62 ∧ -(2 ^ 62) ≤ j ∧ j < 2 ^ 62) : iRange2 m s h = .ok (.fix (rangeD i (j - i).toNat)) h1 := src_of e (if_pos cc)
/-- elements that draw -/
theorem mLc_eff {mi : MSrc} {gm : MG} {me : ME} {vs : List Nat} {s : SLS} {h h1 : CH} {l : List D} (I : CH → Prop) (R : D → Prop) (e : mi s h = .ok (.fix l) h1) (i0 : I h1) (sz : l.length ≤ sizeLine)
    (hs : ∀ d ∈ l, ∀ h, I h → ∃ s1 v h', gm d (wipeS s vs) = some s1 ∧ me s1 h = .ok v h' ∧ I h' ∧ R v) : ∃ ws h', mLc mi gm mYes me vs s h = .ok (.lst ws) h' ∧ I h' ∧ ws.length = l.length ∧ ∀ v ∈ ws, R v := by
  unfold mLc
  rw [e]
  simp only [RSrc.bind, Src.items]
  have key : ∀ k i acc h, k + i = l.length → acc.length = i → I h → (∀ v ∈ acc, R v) → ∃ ws h', lcK (.fix l) (lcStep gm mYes me (wipeS s vs)) k i acc h = .ok ws h' ∧ I h' ∧ ws.length = l.length ∧ ∀ v ∈ ws, R v := by
    intro k
    induction k with
    | zero =>
      intro i acc h e1 e2 ih ra
      refine ⟨acc, h, ?_, ih, by omega, ra⟩
      simp only [lcK, Src.items]
      rw [if_pos (by omega)]
    | succ k ih =>
      intro i acc h e1 e2 ii ra
      have hi : i < l.length := by omega
      obtain ⟨s1, v, h', z1, z2, z3, z4⟩ := hs _ (List.getElem_mem hi) h ii
      simp only [lcK, Src.items, List.getElem?_eq_getElem hi, lcStep, z1, mYes, z2]
      rw [if_pos (by omega)]
      exact ih (i + 1) (acc ++ [v]) h' (by omega) (by simp [e2]) z3 fun w m => (List.mem_append.mp m).elim (ra w) fun q => by rw [List.mem_singleton.mp q]; exact z4
  obtain ⟨ws, h', z1, z2, z3, z4⟩ := key l.length 0 [] h1 (by omega) rfl i0 (by simp)
  rw [z1]
  exact ⟨ws, h', rfl, z2, z3, z4⟩
/-- a loop that may be left -/
theorem sFor_or {mi : MSrc} {g : MG} {mb : MS} {s : SLS} {h h1 : CH} {l : List D} (P : SLS → CH → Prop) (R : D → CH → Prop) (e : mi s h = .ok (.fix l) h1) (p : P s h1)
    (hs : ∀ d ∈ l, ∀ s h, P s h → ∃ s1, g d s = some s1 ∧ ((∃ s' h', mb s1 h = .nx s' h' ∧ P s' h') ∨ (∃ v h', mb s1 h = .rt v h' ∧ R v h'))) :
    (∃ s' h', sFor mi g mb s h = .nx s' h' ∧ P s' h') ∨ (∃ v h', sFor mi g mb s h = .rt v h' ∧ R v h') := by
  unfold sFor
  rw [e]
  simp only [RSrc.bindS, Src.items]
  have key : ∀ k i s h, k + i = l.length → P s h → (∃ s' h', forK (.fix l) (fun d s h => match g d s with | some s' => mb s' h | none => .no) k i s h = .nx s' h' ∧ P s' h') ∨ (∃ v h', forK (.fix l) (fun d s h => match g d s with | some s' => mb s' h | none => .no) k i s h = .rt v h' ∧ R v h') := by
    intro k
    induction k with
    | zero =>
      intro i s h e1 p
      refine .inl ⟨s, h, ?_, p⟩
      simp only [forK, Src.items]
      rw [if_pos (by omega)]
    | succ k ih =>
      intro i s h e1 p
      have hi : i < l.length := by omega
      obtain ⟨s1, z1, z2⟩ := hs _ (List.getElem_mem hi) s h p
      simp only [forK, Src.items, List.getElem?_eq_getElem hi, z1]
      rcases z2 with ⟨s', h', z2, z3⟩ | ⟨v, h', z2, z3⟩
      · rw [z2]; exact ih (i + 1) s' h' (by omega) z3
      · rw [z2]; exact .inr ⟨v, h', rfl, z3⟩
  exact key l.length 0 s h1 (by omega) p
theorem cut_rt {N : Nat} {m : MS} {ds : List D} {h hh j : CH} {d : D} (e : m (startD N ds) h = .rt d (hh ++ j)) (ll : hh.length = h.length) (hl : d.low h.length = true) (hb : ∀ c ∈ hh, c.low h.length = true) : cutM N m ds h = .ok d hh := by
  unfold cutM
  rw [e]
  have t : (hh ++ j).take h.length = hh := by rw [← ll]; simp
  simp only [t]
  rw [if_pos ⟨by simp; omega, hl, List.all_eq_true.mpr fun c m => hb c m⟩]
theorem cut_rt0 {N : Nat} {m : MS} {ds : List D} {h hh : CH} {d : D} (e : m (startD N ds) h = .rt d hh) (ll : hh.length = h.length) (hl : d.low h.length = true) (hb : ∀ c ∈ hh, c.low h.length = true) : cutM N m ds h = .ok d hh :=
  cut_rt (j := []) (by rw [List.append_nil]; exact e) ll hl hb
end Py

set_option Elab.async false
set_option linter.all false
set_option maxRecDepth 100000
namespace Py
open PySem PySem.Spec PyProof.Rows L2
/-- new lists made to trees -/
def frD (h : CH) (n : Nat) : Nat → D → Option D
  | 0, _ => none
  | k + 1, d => match d with
    | .cell m => if m < n then some (.cell m) else (match h[m]? with | some (.lst ds) => (mapOpt (frD h n k) ds).map .lst | _ => none)
    | .tup ds => (mapOpt (frD h n k) ds).map .tup
    | .lst ds => (mapOpt (frD h n k) ds).map .lst
    | d => if d.low n = true then some d else none
theorem mapOpt_fz {h : CH} {n : Nat} {f : D → Option D} (hf : ∀ d e, f d = some e → Fz h n d e) : ∀ {ds es : List D}, mapOpt f ds = some es → Fzs h n ds es
  | [], es, e => by unfold mapOpt at e; cases e; exact .nil
  | d :: ds, es, e => by
    unfold mapOpt at e
    split at e
    · next y e1 =>
      split at e
      · next ys e2 => cases e; exact .cons (hf _ _ e1) (mapOpt_fz hf e2)
      · cases e
    · cases e
theorem frD_fz {h : CH} {n : Nat} : ∀ (k : Nat) (d e : D), frD h n k d = some e → Fz h n d e
  | 0, _, _, e => by cases e
  | k + 1, d, e, q => by
    have ih := frD_fz (h := h) (n := n) k
    cases d with
    | cell m =>
      simp only [frD] at q
      split at q
      · next hm => cases q; exact .low (by simp [D.low, hm])
      · next hm =>
        split at q
        · next ds e1 =>
          simp only [Option.map_eq_some_iff] at q
          obtain ⟨es, e2, rfl⟩ := q
          exact .cell (by omega) e1 (mapOpt_fz ih e2)
        · cases q
    | tup ds =>
      simp only [frD, Option.map_eq_some_iff] at q
      obtain ⟨es, e2, rfl⟩ := q
      exact .tup (mapOpt_fz ih e2)
    | lst ds =>
      simp only [frD, Option.map_eq_some_iff] at q
      obtain ⟨es, e2, rfl⟩ := q
      exact .lst (mapOpt_fz ih e2)
    | _ =>
      simp only [frD] at q
      split at q
      · next l => cases q; exact .low l
      · cases q
/-- a mirror made of the meaning itself: what is returned becomes a tree -/
def cutF (N : Nat) (m : MS) : MF := fun ds h => match m (startD N ds) h with
  | .rt d h' => (match frD h' h.length 9 d with
    | some e => if h.length ≤ h'.length ∧ (h'.take h.length).all (fun c => c.low h.length) = true then .ok e (h'.take h.length) else .no
    | none => .no)
  | _ => .no
theorem meets_cutF (n N : Nat) (m : MS) : Meets' n N m (cutF N m) := by
  intro ds h hl lo bel ne
  unfold cutF at ne ⊢
  generalize m (startD N ds) h = o at ne ⊢
  cases o with
  | rt d h' =>
    simp only at ne ⊢
    generalize hf : frD h' h.length 9 d = q at ne ⊢
    cases q with
    | none => exact absurd rfl ne
    | some e =>
      simp only at ne ⊢
      split at ne
      · next c =>
        rw [if_pos c]
        have el : (h'.take h.length).length = h.length := by rw [List.length_take]; omega
        exact ⟨to_take c.1 c.2, by rw [el]; exact frD_fz 9 d e hf⟩
      · exact absurd rfl ne
  | _ => exact absurd rfl ne
theorem cutF_rt {N : Nat} {m : MS} {ds : List D} {h hh j : CH} {d e : D} (q : m (startD N ds) h = .rt d (hh ++ j)) (ll : hh.length = h.length) (fe : frD (hh ++ j) h.length 9 d = some e) (hb : ∀ c ∈ hh, c.low h.length = true) : cutF N m ds h = .ok e hh := by
  unfold cutF
  rw [q]
  have t : (hh ++ j).take h.length = hh := by rw [← ll]; simp
  simp only [t, fe]
  rw [if_pos ⟨by simp; omega, List.all_eq_true.mpr fun c m => hb c m⟩]
end Py

set_option Elab.async false
set_option linter.all false
namespace Py
open PySem PySem.Spec PyProof.Rows L2
/-! ### trees of small ints: == and repr -/
def itD : Nat → D → Bool
  | 0, _ => false
  | k + 1, d => match d with
    | .int i => decide (i.natAbs < 1000000)
    | .tup ds => ds.all (itD k)
    | .lst ds => ds.all (itD k)
    | .non => true
    | _ => false
structure Nice (k : Nat) (p : PyData) : Prop where
  lay : p.canLay0 = true
  dep : p.depth ≤ k
  sh : p.showable = true
  eqv : PyData.eqv p p = true
structure Nices (k : Nat) (ps : List PyData) : Prop where
  lay : PyData.canLayAll0 ps = true
  dep : PyData.depthAll ps ≤ k
  sh : PyData.showableAll ps = true
  eqv : PyData.eqvAll ps ps = true
theorem log_small {i : Int} (h : i.natAbs < 1000000) : i.natAbs.log2 < 1920 := by
  by_cases z : i.natAbs = 0
  · rw [z]; decide
  · have : i.natAbs < 2 ^ 20 := by omega
    have := (Nat.log2_lt z).mpr this
    omega
theorem nices {f : D → Option PyData} {k : Nat} : ∀ {ds : List D}, (∀ d ∈ ds, ∃ p, f d = some p ∧ Nice k p) → ∃ ps, mapOpt f ds = some ps ∧ Nices k ps
  | [], _ => ⟨[], by unfold mapOpt; rfl, by simp [PyData.canLayAll0], by simp [PyData.depthAll], by simp [PyData.showableAll], by simp [PyData.eqvAll]⟩
  | d :: ds, h => by
    obtain ⟨p, e, n⟩ := h d List.mem_cons_self
    obtain ⟨ps, e2, m⟩ := nices (ds := ds) fun x mx => h x (List.mem_cons_of_mem _ mx)
    refine ⟨p :: ps, by unfold mapOpt; rw [e]; simp only [e2], ?_, ?_, ?_, ?_⟩
    · simp [PyData.canLayAll0, n.lay, m.lay]
    · simp only [PyData.depthAll]; have := n.dep; have := m.dep; omega
    · simp [PyData.showableAll, n.sh, m.sh]
    · simp [PyData.eqvAll, n.eqv, m.eqv]
theorem it_nice (h : CH) : ∀ (k : Nat) (d : D), itD k d = true → ∃ p, toPy h k d = some p ∧ Nice k p
  | 0, _, e => by cases e
  | k + 1, d, e => by
    have ih := it_nice h k
    cases d with
    | int i =>
      simp only [itD, decide_eq_true_eq] at e
      exact ⟨.int i, rfl, by simp [PyData.canLay0], by simp [PyData.depth], by simpa [PyData.showable] using log_small e, by simp [PyData.eqv]⟩
    | non => exact ⟨.none, rfl, by simp [PyData.canLay0], by simp [PyData.depth], by simp [PyData.showable], by simp [PyData.eqv]⟩
    | tup ds =>
      simp only [itD, List.all_eq_true] at e
      obtain ⟨ps, e2, n⟩ := nices (f := toPy h k) (k := k) fun d m => ih d (e d m)
      exact ⟨.tuple ps, by simp only [toPy, e2, Option.map_some], by simpa [PyData.canLay0] using n.lay, by simp only [PyData.depth]; have := n.dep; omega, by simpa [PyData.showable] using n.sh, by simpa [PyData.eqv] using n.eqv⟩
    | lst ds =>
      simp only [itD, List.all_eq_true] at e
      obtain ⟨ps, e2, n⟩ := nices (f := toPy h k) (k := k) fun d m => ih d (e d m)
      exact ⟨.list ps, by simp only [toPy, e2, Option.map_some], by simpa [PyData.canLay0] using n.lay, by simp only [PyData.depth]; have := n.dep; omega, by simpa [PyData.showable] using n.sh, by simpa [PyData.eqv] using n.eqv⟩
    | _ => simp only [itD] at e; cases e
/-- a tree is equal to itself -/
theorem fEqD_tree {h : CH} {d : D} (e : itD 9 d = true) : fEqD h d d = some (.bl true) := by
  obtain ⟨p, q, n⟩ := it_nice h 9 d e
  have s : SeqAt.shaped p = true := by
    simp only [SeqAt.shaped, n.lay, Bool.true_and, decide_eq_true_eq]
    have := n.dep
    omega
  simp only [fEqD, eqD, q, s, and_self, if_true, n.eqv, Option.map_some]
theorem fNeD_tree {h : CH} {d : D} (e : itD 9 d = true) : fNeD h d d = some (.bl false) := by
  obtain ⟨p, q, n⟩ := it_nice h 9 d e
  have s : SeqAt.shaped p = true := by
    simp only [SeqAt.shaped, n.lay, Bool.true_and, decide_eq_true_eq]
    have := n.dep
    omega
  simp only [fNeD, eqD, q, s, and_self, if_true, n.eqv, Option.map_some, Bool.not_true]
end Py

set_option Elab.async false
set_option linter.all false
namespace Py
open PySem PySem.Spec PyProof.Rows L2
def okL (x : Str) : Prop := ∀ c ∈ x.cps.toList, c < 0x110000
theorem okL_ok {x : Str} (h : okL x) : PyData.strOk x = true := by
  unfold PyData.strOk
  rw [← Array.all_toList, List.all_eq_true]
  intro c m
  exact decide_eq_true (h c m)
theorem okL_of (s : String) : okL (Str.ofString s) := by
  intro c m
  rw [signs_ofString] at m
  obtain ⟨ch, _, rfl⟩ := List.mem_map.mp m
  have := ch.valid
  have e : ch.toNat = ch.val.toNat := rfl
  rw [e]
  rcases this with q | q
  · have : ch.val.toNat < 0xd800 := q
    omega
  · exact q.2
theorem okL_app {a b : Str} (h : okL a) (k : okL b) : okL (a ++ b) := by
  intro c m
  have e : (a ++ b).cps.toList = a.cps.toList ++ b.cps.toList := by
    show (a.cps ++ b.cps).toList = _
    simp
  rw [e] at m
  rcases List.mem_append.mp m with q | q
  · exact h c q
  · exact k c q
theorem okL_join {sep : Str} (hs : okL sep) : ∀ ts : List Str, (∀ t ∈ ts, okL t) → okL (Str.join sep ts)
  | [], _ => by intro c m; cases m
  | [x], h => h x List.mem_cons_self
  | x :: y :: r, h => by
    have ih := okL_join hs (y :: r) fun t m => h t (List.mem_cons_of_mem _ m)
    show okL (x ++ sep ++ Str.join sep (y :: r))
    exact okL_app (okL_app (h x List.mem_cons_self) hs) ih
theorem okL_tuple {ts : List Str} (h : ∀ t ∈ ts, okL t) : okL (tupleText ts) := by
  unfold tupleText
  refine okL_app (okL_app (okL_of "(") (okL_join (okL_of ", ") ts h)) ?_
  exact okL_of _
end Py

set_option Elab.async false
set_option linter.all false
namespace Py
open PySem PySem.Spec PyProof.Rows L2
/-! ### repr of trees of tuples and small ints -/
mutual
def itT : D → Bool
  | .int i => decide (i.natAbs < 1000000)
  | .tup ds => itTs ds
  | _ => false
def itTs : List D → Bool
  | [] => true
  | d :: ds => itT d && itTs ds
end
mutual
def costT : D → Nat
  | .tup ds => 4 + costTs ds
  | _ => 30
def costTs : List D → Nat
  | [] => 0
  | d :: ds => costT d + 2 + costTs ds
end
theorem len_app (a b : Str) : (a ++ b).length = a.length + b.length := by
  show (a.cps ++ b.cps).size = _
  simp [Str.length]
theorem len_join {sep : Str} : ∀ ts : List Str, (Str.join sep ts).length ≤ (ts.map fun t => t.length + sep.length).sum
  | [] => by show 0 ≤ _; omega
  | [x] => by show x.length ≤ _; simp
  | x :: y :: r => by
    have ih := len_join (sep := sep) (y :: r)
    show (x ++ sep ++ Str.join sep (y :: r)).length ≤ _
    rw [len_app, len_app, List.map_cons, List.sum_cons]
    omega
theorem len_int {i : Int} (h : i.natAbs < 1000000) : (Str.ofString (toString i)).length ≤ 30 := by
  by_cases z : i.natAbs = 0
  · have : i = 0 := by omega
    subst this
    decide
  · have a : i.natAbs.log2 < 20 := (Nat.log2_lt z).mpr (by omega)
    have := int_text_length_le (a := i) (k := 20) (by decide) a
    rw [Str.ofString_eq_toList]
    simp only [Str.length, List.size_toArray, List.length_map]
    have e : (toString i).toList.length = (toString i).length := String.length_toList
    omega
structure Told (k : Nat) (d : D) (p : PyData) : Prop where
  ok : okL p.shown
  len : p.shown.length ≤ costT d
structure Tolds (ds : List D) (ps : List PyData) : Prop where
  ok : ∀ t ∈ PyData.shownAll ps, okL t
  len : ((PyData.shownAll ps).map fun t => t.length + 2).sum ≤ costTs ds
theorem tolds {f : D → Option PyData} : ∀ {ds : List D} {ps : List PyData}, mapOpt f ds = some ps → (∀ d ∈ ds, ∀ p, f d = some p → Told 0 d p) → Tolds ds ps
  | [], ps, e, h => by unfold mapOpt at e; cases e; exact ⟨by simp [PyData.shownAll], by simp [PyData.shownAll, costTs]⟩
  | d :: ds, ps, e, h => by
    unfold mapOpt at e
    split at e
    · next p e1 =>
      split at e
      · next qs e2 =>
        cases e
        have a := h d List.mem_cons_self p e1
        have b := tolds e2 fun x m => h x (List.mem_cons_of_mem _ m)
        refine ⟨fun t m => ?_, ?_⟩
        · simp only [PyData.shownAll] at m
          rcases List.mem_cons.mp m with q | q
          · rw [q]; exact a.ok
          · exact b.ok t q
        · simp only [PyData.shownAll, List.map_cons, List.sum_cons, costTs]
          have := a.len
          have := b.len
          omega
      · cases e
    · cases e
theorem itTs_mem : ∀ {ds : List D}, itTs ds = true → ∀ d ∈ ds, itT d = true
  | [], _, _, m => by cases m
  | d :: ds, e, x, m => by
    simp only [itTs, Bool.and_eq_true] at e
    rcases List.mem_cons.mp m with q | q
    · rw [q]; exact e.1
    · exact itTs_mem e.2 x q
theorem told {h : CH} : ∀ (k : Nat) (d : D) (p : PyData), itT d = true → toPy h k d = some p → Told 0 d p
  | 0, _, _, _, e => by unfold toPy at e; cases e
  | k + 1, d, p, it, e => by
    have ih := told (h := h) k
    cases d with
    | int i =>
      simp only [itT, decide_eq_true_eq] at it
      cases e
      refine ⟨?_, ?_⟩
      · simp only [PyData.shown]; exact okL_of _
      · simp only [PyData.shown, costT]; exact len_int it
    | tup ds =>
      simp only [itT] at it
      simp only [toPy, Option.map_eq_some_iff] at e
      obtain ⟨ps, e1, rfl⟩ := e
      have t := tolds e1 fun d m p q => ih d p (itTs_mem it d m) q
      refine ⟨?_, ?_⟩
      · simp only [PyData.shown]; exact okL_tuple t.ok
      · simp only [PyData.shown, costT]
        unfold tupleText
        rw [len_app, len_app]
        have j := len_join (sep := (", " : Str)) (PyData.shownAll ps)
        have s2 : ((", " : Str)).length = 2 := by decide
        rw [s2] at j
        have s1 : (("(" : Str)).length = 1 := by decide
        have l := t.len
        have s3 : (Str.ofString (if (PyData.shownAll ps).length == 1 then ",)" else ")")).length ≤ 2 := by
          split <;> decide
        have s4 : (((if (PyData.shownAll ps).length == 1 then ",)" else ")" : String)) : Str).length ≤ 2 := s3
        omega
    | _ => simp only [itT] at it; cases it
/-- repr of such a tree is a text that is equal to itself -/
theorem fRepr_tree {h : CH} {d : D} (e : itD 9 d = true) (t : itT d = true) (c : costT d ≤ 1000000) : ∃ x : Str, (∀ h' : CH, toPy h' 9 d = toPy h 9 d → fRepr h' d = some (.str x)) ∧ fRepr h d = some (.str x) ∧ ∀ h' : CH, fNeD h' (.str x) (.str x) = some (.bl false) := by
  obtain ⟨p, q, n⟩ := it_nice h 9 d e
  have to := told 9 d p t q
  have k : p.showable = true ∧ p.shown.length ≤ sizeLine ∧ p.depth ≤ 20 := ⟨n.sh, sz_of (Nat.le_trans to.len c), by have := n.dep; omega⟩
  have f : fRepr h d = some (.str p.shown) := by simp only [fRepr, q, if_pos k]
  refine ⟨p.shown, fun h' e' => by simp only [fRepr, e', q, if_pos k], f, fun h' => ?_⟩
  have s : SeqAt.shaped (.str p.shown) = true := by
    simp [SeqAt.shaped, PyData.canLay0, okL_ok to.ok, PyData.depth]
  have v : PyData.eqv (.str p.shown) (.str p.shown) = true := by simp [PyData.eqv]
  simp only [fNeD, eqD, toPy, s, and_self, if_true, v, Option.map_some, Bool.not_true]
end Py

set_option Elab.async false
set_option linter.all false
set_option maxRecDepth 100000
namespace Py
open PySem PySem.Spec PyProof.Rows L2
theorem mLc_filt {β : Type} {mi : MSrc} {gm : MG} {mt me : ME} {vs : List Nat} {s : SLS} {h h1 : CH} {x : Src} {xs : List β} (c f : β → D) (t : β → Bool) (e : mi s h = .ok x h1) (hx : x.items h1 = some (xs.map c)) (sz : xs.length ≤ sizeLine)
    (hs : ∀ y ∈ xs, ∃ s1, gm (c y) (wipeS s vs) = some s1 ∧ mt s1 h1 = .ok (.bl (t y)) h1 ∧ (t y = true → me s1 h1 = .ok (f y) h1)) : mLc mi gm mt me vs s h = .ok (.lst ((xs.filter t).map f)) h1 := by
  unfold mLc
  rw [e]
  simp only [RSrc.bind, hx]
  have key : ∀ k i acc, k + i = xs.length → acc.length ≤ i → lcK x (lcStep gm mt me (wipeS s vs)) k i acc h1 = .ok (acc ++ ((xs.drop i).filter t).map f) h1 := by
    intro k
    induction k with
    | zero =>
      intro i acc e1 e2
      simp only [lcK, hx]
      rw [if_pos (by rw [List.length_map]; omega), List.drop_of_length_le (by omega)]
      simp
    | succ k ih =>
      intro i acc e1 e2
      have hi : i < xs.length := by omega
      obtain ⟨s1, z1, z2, z3⟩ := hs _ (List.getElem_mem hi)
      simp only [lcK, hx, List.getElem?_map, List.getElem?_eq_getElem hi, Option.map_some, lcStep, z1, z2]
      rw [List.drop_eq_getElem_cons hi]
      cases ht : t xs[i] with
      | true =>
        simp only [z3 ht]
        rw [if_pos (by omega), ih (i + 1) _ (by omega) (by simp; omega), List.filter_cons_of_pos ht, List.map_cons, List.append_assoc]
        rfl
      | false =>
        dsimp only
        rw [ih (i + 1) _ (by omega) (by omega), List.filter_cons_of_neg (by simp [ht])]
  rw [List.length_map, key xs.length 0 [] (by omega) (Nat.le_refl _)]
  simp
theorem mapOpt_map {β γ δ : Type} {f : γ → Option δ} (g : β → γ) (k : β → δ) : ∀ (l : List β), (∀ x ∈ l, f (g x) = some (k x)) → mapOpt f (l.map g) = some (l.map k)
  | [], _ => rfl
  | x :: l, h => by
    rw [List.map_cons]
    unfold mapOpt
    rw [h x List.mem_cons_self]
    simp only [mapOpt_map g k l fun y m => h y (List.mem_cons_of_mem _ m)]
    rfl
theorem popAt_off {h C : CH} {i : Nat} {ds : List D} {d : D} (e : C[i]? = some (.lst ds)) (q : ds[ds.length - 1]? = some d) : popAt (h ++ C) (.cell (h.length + i)) = some (d, h ++ C.set i (.lst ds.dropLast)) := by
  simp only [popAt, at_off e, q, set_off]
theorem seqOf_off {h C : CH} {i : Nat} {ds : List D} (e : C[i]? = some (.lst ds)) : seqOf (h ++ C) (.cell (h.length + i)) = some ds := by
  simp only [seqOf, lstOf_off e]
theorem lsOf_off {h C : CH} {i : Nat} {ds : List D} (e : C[i]? = some (.lst ds)) : lsOf (h ++ C) (.cell (h.length + i)) = some ds := by
  simp only [lsOf, lstOf_off e]
/-- elements that draw, told by what they come from -/
theorem lcK_rel {β : Type} {x : Src} {st : D → CH → RLc} {xs : List β} {c : β → D} (I : CH → Prop) (R : β → D → Prop) (hx : ∀ h, I h → x.items h = some (xs.map c)) (sz : xs.length ≤ sizeLine)
    (hs : ∀ (y : β) (h : CH), y ∈ xs → I h → ∃ v h', st (c y) h = .add v h' ∧ I h' ∧ R y v) : ∀ (k i : Nat) (acc : List D) (h : CH), k + i = xs.length → acc.length = i → I h → (∀ (j : Nat) (y : β) (v : D), xs[j]? = some y → acc[j]? = some v → R y v) →
      ∃ ws h', lcK x st k i acc h = .ok ws h' ∧ I h' ∧ ws.length = xs.length ∧ ∀ (j : Nat) (y : β) (v : D), xs[j]? = some y → ws[j]? = some v → R y v
  | 0, i, acc, h, e1, e2, ih, ra => by
    refine ⟨acc, h, ?_, ih, by omega, ra⟩
    simp only [lcK, hx h ih]
    rw [if_pos (by rw [List.length_map]; omega)]
  | k + 1, i, acc, h, e1, e2, ii, ra => by
    have hi : i < xs.length := by omega
    obtain ⟨v, h', z1, z3, z4⟩ := hs _ h (List.getElem_mem hi) ii
    simp only [lcK, hx h ii, List.getElem?_map, List.getElem?_eq_getElem hi, Option.map_some, z1]
    rw [if_pos (by omega)]
    refine lcK_rel I R hx sz hs k (i + 1) (acc ++ [v]) h' (by omega) (by simp [e2]) z3 fun j y w ej ew => ?_
    by_cases hj : j < acc.length
    · rw [List.getElem?_append_left hj] at ew
      exact ra j y w ej ew
    · rw [List.getElem?_append_right (by omega)] at ew
      have hj2 : j - acc.length = 0 := by
        have := (List.getElem?_eq_some_iff.mp ew).1
        simp at this
        omega
      rw [hj2] at ew
      have jj : j = i := by omega
      subst jj
      rw [List.getElem?_eq_getElem hi] at ej
      cases ej
      cases ew
      exact z4
theorem mLcC_rel {β : Type} {mi : MSrc} {gm : MG} {me : ME} {vs : List Nat} {s : SLS} {h h1 : CH} {x : Src} {xs : List β} {c : β → D} (I : CH → Prop) (R : β → D → Prop) (e : mi s h = .ok x h1) (i0 : I h1) (hx : ∀ h, I h → x.items h = some (xs.map c)) (sz : xs.length ≤ sizeLine)
    (hs : ∀ (y : β) (h : CH), y ∈ xs → I h → ∃ s1 v h', gm (c y) (wipeS s vs) = some s1 ∧ me s1 h = .ok v h' ∧ I h' ∧ R y v) : ∃ ws h', mLcC mi gm mYes me vs s h = .ok (.cell h'.length) (h' ++ [.lst ws]) ∧ I h' ∧ ws.length = xs.length ∧ ∀ (j : Nat) (y : β) (v : D), xs[j]? = some y → ws[j]? = some v → R y v := by
  obtain ⟨ws, h', z1, z2, z3, z4⟩ := lcK_rel (x := x) (st := lcStep gm mYes me (wipeS s vs)) I R hx sz (fun y h m ih => by
    obtain ⟨s1, v, h', q1, q2, q3, q4⟩ := hs y h m ih
    exact ⟨v, h', by simp only [lcStep, q1, mYes, q2], q3, q4⟩) xs.length 0 [] h1 (by omega) rfl i0 (by simp)
  refine ⟨ws, h', ?_, z2, z3, z4⟩
  unfold mLcC
  rw [e]
  simp only [RSrc.bind, hx h1 i0, List.length_map, z1]
theorem shaped_lst {ps : List PyData} (q : Nices 8 ps) : SeqAt.shaped (.list ps) = true := by
  have n : Nice 9 (.list ps) := ⟨by simpa [PyData.canLay0] using q.lay, by simp only [PyData.depth]; have := q.dep; omega, by simpa [PyData.showable] using q.sh, by simpa [PyData.eqv] using q.eqv⟩
  simp only [SeqAt.shaped, n.lay, Bool.true_and, decide_eq_true_eq]
  have := n.dep
  omega
theorem toPy_lst {h : CH} {k : Nat} {ds : List D} : toPy h (k + 1) (.lst ds) = (mapOpt (toPy h k) ds).map PyData.list := rfl
theorem toPy_nil {h : CH} : toPy h 9 (.lst []) = some (.list []) := by rw [toPy_lst]; unfold mapOpt; rfl
theorem toPy_cell {h : CH} {k n : Nat} {ds : List D} (e : h[n]? = some (.lst ds)) : toPy h (k + 1) (.cell n) = (mapOpt (toPy h k) ds).map PyData.list := by
  show (match h[n]? with | some (.lst ds) => (mapOpt (toPy h k) ds).map PyData.list | _ => none) = _
  rw [e]
/-- a list that changes, and [] -/
theorem eqD_nil {h : CH} {n : Nat} {ds : List D} (e : h[n]? = some (.lst ds)) (it : ds.all (itD 8) = true) : eqD h (.cell n) (.lst []) = some ds.isEmpty := by
  rw [List.all_eq_true] at it
  obtain ⟨ps, e2, q⟩ := nices (f := toPy h 8) (k := 8) fun d m => it_nice h 8 d (it d m)
  have s1 := shaped_lst q
  have s2 : SeqAt.shaped (.list []) = true := by simp [SeqAt.shaped, PyData.canLay0, PyData.depth, PyData.canLayAll0, PyData.depthAll]
  have t1 : toPy h 9 (.cell n) = some (.list ps) := by rw [toPy_cell e, e2]; rfl
  have t2 : toPy h 9 (.lst []) = some (.list []) := toPy_nil
  simp only [eqD, t1, t2, s1, s2, and_self, if_true]
  cases ds with
  | nil =>
    unfold mapOpt at e2
    cases e2
    simp [PyData.eqv, PyData.eqvAll]
  | cons d ds =>
    unfold mapOpt at e2
    split at e2
    · split at e2
      · cases e2
        simp [PyData.eqv, PyData.eqvAll]
      · cases e2
    · cases e2
theorem fEqD_nil {h : CH} {n : Nat} {ds : List D} (e : h[n]? = some (.lst ds)) (it : ds.all (itD 8) = true) : fEqD h (.cell n) (.lst []) = some (.bl ds.isEmpty) := by
  simp only [fEqD, eqD_nil e it, Option.map_some]
theorem fNeD_nil {h : CH} {n : Nat} {ds : List D} (e : h[n]? = some (.lst ds)) (it : ds.all (itD 8) = true) : fNeD h (.cell n) (.lst []) = some (.bl (!ds.isEmpty)) := by
  simp only [fNeD, eqD_nil e it, Option.map_some]
theorem itD_nat {k n : Nat} (h : n < 1000000) : itD (k + 1) (dN n) = true := by
  simp only [itD, decide_eq_true_eq]
  omega
theorem itD_nats {k : Nat} {ns : List Nat} (h : ∀ n ∈ ns, n < 1000000) : (ns.map dN).all (itD (k + 1)) = true := by
  rw [List.all_eq_true]
  intro d m
  obtain ⟨n, mn, rfl⟩ := List.mem_map.mp m
  exact itD_nat (h n mn)
/-- a loop that may be broken off -/
theorem sFor_bk {mi : MSrc} {g : MG} {mb : MS} {s : SLS} {h h1 : CH} {l : List D} (P : Nat → SLS → CH → Prop) (R : SLS → CH → Prop) (e : mi s h = .ok (.fix l) h1) (p : P 0 s h1)
    (hs : ∀ i d s h, P i s h → l[i]? = some d → ∃ s1 s' h', g d s = some s1 ∧ (((mb s1 h = .nx s' h' ∨ mb s1 h = .ct s' h') ∧ P (i + 1) s' h') ∨ (mb s1 h = .bk s' h' ∧ R s' h'))) : ∃ s' h', sFor mi g mb s h = .nx s' h' ∧ (P l.length s' h' ∨ R s' h') := by
  unfold sFor
  rw [e]
  simp only [RSrc.bindS, Src.items]
  have key : ∀ k i s h, k + i = l.length → P i s h → ∃ s' h', forK (.fix l) (fun d s h => match g d s with | some s' => mb s' h | none => .no) k i s h = .nx s' h' ∧ (P l.length s' h' ∨ R s' h') := by
    intro k
    induction k with
    | zero =>
      intro i s h e1 p
      have ei : i = l.length := by omega
      subst ei
      refine ⟨s, h, ?_, .inl p⟩
      simp only [forK, Src.items, if_true]
    | succ k ih =>
      intro i s h e1 p
      have hi : i < l.length := by omega
      obtain ⟨s1, s', h', z1, z2⟩ := hs i _ s h p (List.getElem?_eq_getElem hi)
      simp only [forK, Src.items, List.getElem?_eq_getElem hi, z1]
      rcases z2 with ⟨z2 | z2, z3⟩ | ⟨z2, z3⟩
      · rw [z2]; exact ih (i + 1) s' h' (by omega) z3
      · rw [z2]; exact ih (i + 1) s' h' (by omega) z3
      · rw [z2]; exact ⟨s', h', rfl, .inr z3⟩
  exact key l.length 0 s h1 (by omega) p
/-! ### steps, told one by one (the kernel never looks into what is asked) -/
theorem seq_asg {m : ME} {g : MG} {r : MS} {s s1 : SLS} {h h1 : CH} {d : D} (e : m s h = .ok d h1) (q : g d s = some s1) : sSeq (sAsg m g) r s h = r s1 h1 := by
  simp only [sSeq, sAsg, e, RE.bindS, RS.bind, q]
theorem seq_nx {m r : MS} {s s1 : SLS} {h h1 : CH} (e : m s h = .nx s1 h1) : sSeq m r s h = r s1 h1 := by
  simp only [sSeq, RS.bind, e]
theorem seq_rt {m r : MS} {s : SLS} {h h1 : CH} {d : D} (e : m s h = .rt d h1) : sSeq m r s h = .rt d h1 := by
  simp only [sSeq, RS.bind, e]
theorem seq_ret {m : ME} {r : MS} {s : SLS} {h h1 : CH} {d : D} (e : m s h = .ok d h1) : sSeq (sRet m) r s h = .rt d h1 := by
  simp only [sSeq, sRet, e, RE.bindS, RS.bind]
theorem seq_expr {m : ME} {r : MS} {s : SLS} {h h1 : CH} {d : D} (e : m s h = .ok d h1) : sSeq (sExpr m) r s h = r s h1 := by
  simp only [sSeq, sExpr, e, RE.bindS, RS.bind]
theorem seq_if {c : ME} {a b r : MS} {s : SLS} {h h1 : CH} {t : Bool} (e : c s h = .ok (.bl t) h1) : sSeq (sIf c a b) r s h = sSeq (if t then a else b) r s h1 := by
  cases t <;> simp only [sSeq, sIf, e, RE.bindS] <;> rfl
theorem cb_one {f : FC} {m : ME} {s : SLS} {h h1 : CH} {d v : D} (e : m s h = .ok d h1) (q : f h1 [d] = some v) : mCB f (mCons m mNil) s h = .ok v h1 := by
  simp only [mCB, mCons, mNil, e, RE.bindA, RA.bindA, RA.bind, lift, q]
theorem call1 {f : MF} {a : ME} {s : SLS} {h h1 : CH} {d : D} {x : RE} (e : a s h = .ok d h1) (q : f [d] h1 = x) : mCall 1 f [] (mCons a mNil) s h = x := by
  simp only [mCall, mCons, mNil, e, RE.bindA, RA.bindA, RA.bind, ar, List.append_nil, List.length_cons, List.length_nil, if_true, q]
theorem call2 {f : MF} {a b : ME} {s : SLS} {h h1 h2 : CH} {d e : D} {x : RE} (ea : a s h = .ok d h1) (eb : b s h1 = .ok e h2) (q : f [d, e] h2 = x) : mCall 2 f [] (mCons a (mCons b mNil)) s h = x := by
  simp only [mCall, mCons, mNil, ea, eb, RE.bindA, RA.bindA, RA.bind, ar, List.append_nil, List.length_cons, List.length_nil, if_true, q]
theorem call3 {f : MF} {a b c : ME} {s : SLS} {h h1 h2 h3 : CH} {d e g : D} {x : RE} (ea : a s h = .ok d h1) (eb : b s h1 = .ok e h2) (ec : c s h2 = .ok g h3) (q : f [d, e, g] h3 = x) : mCall 3 f [] (mCons a (mCons b (mCons c mNil))) s h = x := by
  simp only [mCall, mCons, mNil, ea, eb, ec, RE.bindA, RA.bindA, RA.bind, ar, List.append_nil, List.length_cons, List.length_nil, if_true, q]
theorem bin_ok {f : F2} {a b : ME} {s : SLS} {h h1 h2 : CH} {x y d : D} (ea : a s h = .ok x h1) (eb : b s h1 = .ok y h2) (q : f h2 x y = some d) : mBin f a b s h = .ok d h2 := by
  simp only [mBin, ea, eb, RE.bind, lift, q]
theorem app_ok {x m : ME} {s : SLS} {h h1 h2 h3 : CH} {o d : D} (ex : x s h = .ok o h1) (il : isLst h1 o = true) (em : m s h1 = .ok d h2) (ap : appAt h2 o d = some h3) : mApp x m s h = .ok .non h3 := by
  simp only [mApp, ex, il, em, ap, RE.bind, if_true]
theorem and_ok {a b : ME} {s : SLS} {h h1 h2 : CH} {x y : Bool} (ea : a s h = .ok (.bl x) h1) (eb : x = true → b s h1 = .ok (.bl y) h2) (q : x = false → h2 = h1) : mAnd a b s h = .ok (.bl (x && y)) h2 := by
  cases x with
  | true => simp only [mAnd, ea, eb rfl, RE.bind, Bool.true_and]
  | false => simp only [mAnd, ea, RE.bind, Bool.false_and, q rfl]
theorem call4 {f : MF} {a b c d' : ME} {s : SLS} {h h1 h2 h3 h4 : CH} {d e g k : D} {x : RE} (ea : a s h = .ok d h1) (eb : b s h1 = .ok e h2) (ec : c s h2 = .ok g h3) (ed : d' s h3 = .ok k h4) (q : f [d, e, g, k] h4 = x) : mCall 4 f [] (mCons a (mCons b (mCons c (mCons d' mNil)))) s h = x := by
  simp only [mCall, mCons, mNil, ea, eb, ec, ed, RE.bindA, RA.bindA, RA.bind, ar, List.append_nil, List.length_cons, List.length_nil, if_true, q]
theorem callK3 {f : MF} {a b c : ME} {s : SLS} {h h1 h2 h3 : CH} {d e g : D} {x : RE} (ea : a s h = .ok d h1) (eb : b s h1 = .ok e h2) (ec : c s h2 = .ok g h3) (q : f [g, e, d] h3 = x) : mCallK 3 f [2, 1, 0] (mCons a (mCons b (mCons c mNil))) s h = x := by
  have p : pick [2, 1, 0] [d, e, g] = [g, e, d] := rfl
  simp only [mCallK, mCons, mNil, ea, eb, ec, RE.bindA, RA.bindA, RA.bind, p, ar, List.append_nil, List.length_cons, List.length_nil, if_true, q]
theorem call2d {f : MF} {a b : ME} {s : SLS} {h h1 h2 : CH} {d e z : D} {x : RE} (ea : a s h = .ok d h1) (eb : b s h1 = .ok e h2) (q : f [d, e, z] h2 = x) : mCall 3 f [z] (mCons a (mCons b mNil)) s h = x := by
  simp only [mCall, mCons, mNil, ea, eb, RE.bindA, RA.bindA, RA.bind, ar, List.cons_append, List.nil_append, List.length_cons, List.length_nil, if_true, q]
theorem seq_chk {c : ME} {a r : MS} {s : SLS} {h h1 : CH} (e : c s h = .ok (.bl false) h1) : sSeq (sIf c a sNext) r s h = r s h1 := by
  rw [seq_if e]
  exact seq_nx rfl
theorem or_ff {a b : ME} {s : SLS} {h h1 h2 : CH} (ea : a s h = .ok (.bl false) h1) (eb : b s h1 = .ok (.bl false) h2) : mOr a b s h = .ok (.bl false) h2 := by
  simp only [mOr, ea, eb, RE.bind]
theorem and_tt {a b : ME} {s : SLS} {h h1 h2 : CH} (ea : a s h = .ok (.bl true) h1) (eb : b s h1 = .ok (.bl true) h2) : mAnd a b s h = .ok (.bl true) h2 := by
  simp only [mAnd, ea, eb, RE.bind]
theorem fld_ok {cs : List Nat} {f : Str} {a : ME} {s : SLS} {h h1 : CH} {d v : D} (ea : a s h = .ok d h1) (q : fieldOf h1 cs f d = some v) : mFld cs f a s h = .ok v h1 := by
  simp only [mFld, ea, RE.bind, lift, q]
theorem make1 {c : Nat} {mi : MI} {a : ME} {s : SLS} {h h1 : CH} {d : D} {fs : Xfs} (ea : a s h = .ok d h1) (q : mi [d] h1 = .ok fs) (lo : D.lows h1.length (fs.map (·.2)) = true) : mMake c 1 mi [] (mCons a mNil) s h = .ok (.obj c (fs.map (·.1)) (fs.map (·.2))) h1 := by
  simp only [mMake, mCons, mNil, ea, RE.bindA, RA.bindA, RA.bind, List.append_nil, List.length_cons, List.length_nil, if_true, q, if_pos lo]
theorem make2 {c : Nat} {mi : MI} {a b : ME} {s : SLS} {h h1 h2 : CH} {d e : D} {fs : Xfs} (ea : a s h = .ok d h1) (eb : b s h1 = .ok e h2) (q : mi [d, e] h2 = .ok fs) (lo : D.lows h2.length (fs.map (·.2)) = true) : mMake c 2 mi [] (mCons a (mCons b mNil)) s h = .ok (.obj c (fs.map (·.1)) (fs.map (·.2))) h2 := by
  simp only [mMake, mCons, mNil, ea, eb, RE.bindA, RA.bindA, RA.bind, List.append_nil, List.length_cons, List.length_nil, if_true, q, if_pos lo]
theorem par_ok {i j : Nat} {a b : ME} {s s1 : SLS} {h h1 h2 : CH} {d e : D} (ea : a s h = .ok d h1) (eb : b s h1 = .ok e h2) (q : (s.set i (some d)).set j (some e) = s1) : sPar i j (mCons a (mCons b mNil)) s h = .nx s1 h2 := by
  simp only [sPar, mCons, mNil, ea, eb, RE.bindA, RA.bindA, q]
theorem if_t {c a b : ME} {s : SLS} {h h1 : CH} {x : RE} (ec : c s h = .ok (.bl true) h1) (ea : a s h1 = x) : mIf c a b s h = x := by
  simp only [mIf, ec, RE.bind, ea]
theorem if_f {c a b : ME} {s : SLS} {h h1 : CH} {x : RE} (ec : c s h = .ok (.bl false) h1) (ea : b s h1 = x) : mIf c a b s h = x := by
  simp only [mIf, ec, RE.bind, ea]
theorem or_t {a b : ME} {s : SLS} {h h1 : CH} (ea : a s h = .ok (.bl true) h1) : mOr a b s h = .ok (.bl true) h1 := by
  simp only [mOr, ea, RE.bind]
theorem or_f {a b : ME} {s : SLS} {h h1 : CH} {x : RE} (ea : a s h = .ok (.bl false) h1) (eb : b s h1 = x) : mOr a b s h = x := by
  simp only [mOr, ea, RE.bind, eb]
theorem seq_then {c : ME} {a b r : MS} {s s1 : SLS} {h h1 h2 : CH} (e : c s h = .ok (.bl true) h1) (q : a s h1 = .nx s1 h2) : sSeq (sIf c a b) r s h = r s1 h2 := by
  rw [seq_if e]
  exact seq_nx q
theorem nats_of {n : Nat} : ∀ {ws : List D}, (∀ v ∈ ws, ∃ d : Nat, d < n ∧ v = dN d) → ∃ l : List Nat, ws = l.map dN ∧ ∀ x ∈ l, x < n
  | [], _ => ⟨[], rfl, by simp⟩
  | v :: ws, h => by
    obtain ⟨d, hd, rfl⟩ := h v List.mem_cons_self
    obtain ⟨l, rfl, hl⟩ := nats_of (ws := ws) fun x m => h x (List.mem_cons_of_mem _ m)
    exact ⟨d :: l, rfl, fun x m => by
      rcases List.mem_cons.mp m with q | q
      · rw [q]; exact hd
      · exact hl x q⟩
end Py

set_option Elab.async false
set_option linter.all false
set_option maxRecDepth 100000
namespace Py
open PySem PySem.Spec PyProof.Rows L2
/-! ### the head with facts by names -/
theorem walk_GE {l : PySem.W.OpenLaw} {n k : Nat} {q : Program} {loose : List Str} {XP : (Str → Option Value) → Heap → Prop} {YP : World → Heap → Prop} {d : DefRec} {x : Str}
    (hn : l.most = some n) (nz : n ≤ sizeLine) (df : d.params.defaults = []) (rm : Rm k callerA)
    (F : ∀ (w : World) (mg : Str → Option Value) (fa : Addr) (h : Heap), YP w h → h.Ns mainGlobals mg → mg d.name = some (.ref fa) →
      ∃ (K : PySem.W.Frag) (fd : FuncData) (sp : Sp), K.In h ∧ (∀ (s : Shared) (u : Value), BindsTo s fd ⟨[u], []⟩ [(x, u)]) ∧
        (∀ (H : Hp) (a : Addr) (ns : List Int), ns.length ≤ n → Only H → SqL K H a (ns.map V.int) → sp [.ref a] H (fun v _ => v = .bl true) fun _ _ _ => False) ∧
        ∀ B : Heap, K.In B → B.Ns mainGlobals mg → FnG l.prog w K mg B (L2.CX l.prog w) k fa fd [x] sp) :
    PySem.W.WalkO q loose XP YP l.row.toRowW d [] (fun f vs => PySem.call f vs) := by
  refine Att.attach_call hn df fun w s0 s1 mg mb fa o pm cd doc a vs ns G Y _ _ _ hm hb hi hl hg => ?_
  obtain ⟨K, fd, sp, kin, b, pr, f⟩ := F w mg fa _ Y G.T.g hm
  exact law_callG kin G.T.g G.T.b G.T.builtins G.T.nolimit hg hb hi (Nat.le_trans hl nz) rm f b (fun H on sq => pr H a ns hl on sq) fun H e s' z => out_never z
theorem fun_of {K : PySem.W.Frag} {x q : Str} {st : Stmt} {kws : List (Str × V)} {f : Addr} {fd : FuncData} (F : FunD K x q (defArgs st) (defBody st) (defScope st) [] kws f fd) : Fun K x q st f fd := by
  obtain ⟨⟨oc, od, dV, kV, doc, pm, an, cdv, ct, osl, e1, e2, e3, e4, e5⟩, kp⟩ := F
  rcases e4 with ⟨_, rfl⟩ | ⟨z, _⟩
  · exact ⟨⟨oc, od, kV, doc, pm, an, cdv, ct, osl, e1, e2, e3⟩, kp⟩
  · exact absurd rfl z
section
variable {K : PySem.W.Frag} {x qual : Str} {params : Arguments} {body : List Stmt} {scope : Scope} {dvs : List V} {kws : List (Str × V)} {f : Addr} {fd : FuncData} {ps ks : List Str} {l : List Nat}
/-- keywords alone, no defaults -/
theorem kb0_n (F : FunD K x qual params body scope [] kws f fd)
    (h : ∀ (kV doc pm : Value) (an : Option Addr) (cdv ct : Value) (ws : List Value), (pick l ws).length = ps.length → bindArgs (PySem.W.fnOf x qual params body scope .none kV doc pm an cdv ct) ⟨[], ks.zip ws⟩ = pure (ps.zip (pick l ws))) : KB0 K fd ps ks (pick l) (pick l) := by
  obtain ⟨oc, od, dV, kV, doc, pm, an, cdv, ct, osl, rfl, lk, hcd, hD, hK⟩ := F.ex
  rcases hD with ⟨_, rfl⟩ | ⟨e, _⟩
  · exact ⟨fun s ws X hl => .of_eq (h kV doc pm an cdv ct ws hl), fun r => vals_pick r l⟩
  · exact absurd rfl e
/-- keywords alone, defaults that are not asked -/
theorem kb0_d (F : FunD K x qual params body scope dvs kws f fd) (hd : dvs ≠ [])
    (h : ∀ (T : Addr) (kV doc pm : Value) (an : Option Addr) (cdv ct : Value) (ws its : List Value), (pick l ws).length = ps.length → its.length = dvs.length →
      ∃ k, bindArgs (PySem.W.fnOf x qual params body scope (.ref T) kV doc pm an cdv ct) ⟨[], ks.zip ws⟩ = seqItems? (.ref T) >>= k ∧ k (some its.toArray) = pure (ps.zip (pick l ws))) : KB0 K fd ps ks (pick l) (pick l) := by
  obtain ⟨oc, od, dV, kV, doc, pm, an, cdv, ct, osl, rfl, lk, hcd, hD, hK⟩ := F.ex
  rcases hD with ⟨e, _⟩ | ⟨_, T, o, its, m, rfl, lT, oT, rT⟩
  · exact absurd e hd
  · refine ⟨fun s ws X hl => ?_, fun r => vals_pick r l⟩
    obtain ⟨k, e1, e2⟩ := h T kV doc pm an cdv ct ws its hl rT.length.symm
    refine BindsTo.of_looks fun M => ?_
    rw [e1]
    exact looks_items X lT oT (.of_pure e2)
end
end Py

set_option Elab.async false
set_option linter.all false
set_option maxRecDepth 100000
set_option maxHeartbeats 4000000
namespace K16
open PySem PySem.Spec PyProof.Rows L2 Py
def top (i : Nat) : Stmt := PySem.Challenge.pw_logsapart_k16_whole_stories_in_digits.main.body.getD i (.Pass ⟨0, 0, 0, 0⟩)
abbrev cHands : Nat := 0
abbrev cDigits : Nat := 1
def cs_hands : List Nat := [cDigits]
def cs_many : List Nat := [cHands]
def cs_marks : List Nat := [cHands]
def cs_number : List Nat := [cDigits]
def cs_stretches : List Nat := [cDigits]
structure Txt (T : Tab) (K : PySem.W.Frag) (mg : Str → Option Value) : Prop where
  b_abs : mg "abs" = none
  b_all : mg "all" = none
  b_any : mg "any" = none
  b_bool : mg "bool" = none
  b_enumerate : mg "enumerate" = none
  b_int : mg "int" = none
  b_isinstance : mg "isinstance" = none
  b_len : mg "len" = none
  b_list : mg "list" = none
  b_max : mg "max" = none
  b_min : mg "min" = none
  b_range : mg "range" = none
  b_repr : mg "repr" = none
  b_reversed : mg "reversed" = none
  b_sum : mg "sum" = none
  b_tuple : mg "tuple" = none
  b_zip : mg "zip" = none
  c_MOST_HANDS : ∃ t, mg "MOST_HANDS" = some (.int 8 t)
  c_MOST_MARKS : ∃ t, mg "MOST_MARKS" = some (.int 60 t)
  c_MOST_STORY : ∃ t, mg "MOST_STORY" = some (.int 10000 t)
  f_hands : HasF T K cs_hands "hands"
  f_many : HasF T K cs_many "many"
  f_marks : HasF T K cs_marks "marks"
  f_number : HasF T K cs_number "number"
  f_stretches : HasF T K cs_stretches "stretches"

def nb_gcd : SLS → CH → Nat := fun s _ => match s[1]? with | some (some (D.int b)) => b.toNat + 2 | _ => 0
def nb_least : SLS → CH → Nat := fun _ _ => 100
def nb_struck : SLS → CH → Nat := fun _ _ => 1000

section
variable {T : Tab} {P : Program} {w : World} {K : PySem.W.Frag} {mg : Str → Option Value} {base : Heap} {k : Nat}
abbrev s_is_integer : Stmt := top 11
abbrev N_is_integer : List Str := ["value"]
theorem sc_is_integer : FnScope N_is_integer ["value"] (defScope s_is_integer) := ⟨rfl, rfl, rfl, by decide +kernel, rfl, by decide +kernel, by decide +kernel⟩
def m_is_integer : MS := (sSeq (sRet (mAnd (mUn (fIsi ["int"]) (mVar 0)) (mNot (mUn (fIsi ["bool"]) (mVar 0))))) sNext)
theorem ok_is_integer {f : Addr} {fd : FuncData} {mf : MF} (F : Fun K "is_integer" "is_integer" s_is_integer f fd) (X_ : Txt T K mg)  (me : Meets' 1 1 (m_is_integer) mf) :
    FnG P w K mg base (L2.CX P w) (k + 1) f fd ["value"] (spM T K 1 mf) := by
  refine ok_def (N := N_is_integer) (m := m_is_integer) F sc_is_integer rfl (fun cdv A outer s H E bx => ?_) me
  exact (sss_cons (ss_ret (se_and (se_isi X_.b_isinstance X_.b_int (se_var 0)) (se_one (se_not (se_isi X_.b_isinstance X_.b_bool (se_var 0)))))) sss_nil)
abbrev s_is_number : Stmt := top 12
abbrev N_is_number : List Str := ["value"]
theorem sc_is_number : FnScope N_is_number ["value"] (defScope s_is_number) := ⟨rfl, rfl, rfl, by decide +kernel, rfl, by decide +kernel, by decide +kernel⟩
def m_is_number (f_is_integer : MF) : MS := (sSeq (sRet (mAnd (mCall 1 f_is_integer [] (mCons (mVar 0) mNil)) (mBin fGe (mVar 0) (mC (.int 0))))) sNext)
theorem ok_is_number {f : Addr} {fd : FuncData} {mf : MF} {f_is_integer : MF} (F : Fun K "is_number" "is_number" s_is_number f fd) (X_ : Txt T K mg) (G_is_integer_1 : FnM T P w K mg base k "is_integer" 1 [] f_is_integer) (me : Meets' 1 1 (m_is_number f_is_integer) mf) :
    FnG P w K mg base (L2.CX P w) (k + 1) f fd ["value"] (spM T K 1 mf) := by
  refine ok_def (N := N_is_number) (m := m_is_number f_is_integer) F sc_is_number rfl (fun cdv A outer s H E bx => ?_) me
  exact (sss_cons (ss_ret (se_and (se_call G_is_integer_1 bx.tk bx.hr (sa_cons (se_var 0) sa_nil)) (se_one (se_ge (se_var 0) se_int)))) sss_nil)
abbrev s_is_below : Stmt := top 13
abbrev N_is_below : List Str := ["value", "most"]
theorem sc_is_below : FnScope N_is_below ["value", "most"] (defScope s_is_below) := ⟨rfl, rfl, rfl, by decide +kernel, rfl, by decide +kernel, by decide +kernel⟩
def m_is_below (f_is_number : MF) : MS := (sSeq (sRet (mAnd (mCall 1 f_is_number [] (mCons (mVar 0) mNil)) (mBin fLt (mVar 0) (mVar 1)))) sNext)
theorem ok_is_below {f : Addr} {fd : FuncData} {mf : MF} {f_is_number : MF} (F : Fun K "is_below" "is_below" s_is_below f fd) (X_ : Txt T K mg) (G_is_number_1 : FnM T P w K mg base k "is_number" 1 [] f_is_number) (me : Meets' 2 2 (m_is_below f_is_number) mf) :
    FnG P w K mg base (L2.CX P w) (k + 1) f fd ["value", "most"] (spM T K 2 mf) := by
  refine ok_def (N := N_is_below) (m := m_is_below f_is_number) F sc_is_below rfl (fun cdv A outer s H E bx => ?_) me
  exact (sss_cons (ss_ret (se_and (se_call G_is_number_1 bx.tk bx.hr (sa_cons (se_var 0) sa_nil)) (se_one (se_lt (se_var 0) (se_var 1))))) sss_nil)
abbrev s_is_within : Stmt := top 14
abbrev N_is_within : List Str := ["value", "least", "most"]
theorem sc_is_within : FnScope N_is_within ["value", "least", "most"] (defScope s_is_within) := ⟨rfl, rfl, rfl, by decide +kernel, rfl, by decide +kernel, by decide +kernel⟩
def m_is_within (f_is_integer : MF) : MS := (sSeq (sRet (mAnd (mCall 1 f_is_integer [] (mCons (mVar 0) mNil)) (mChain fLe fLe (mVar 1) (mVar 0) (mVar 2)))) sNext)
theorem ok_is_within {f : Addr} {fd : FuncData} {mf : MF} {f_is_integer : MF} (F : Fun K "is_within" "is_within" s_is_within f fd) (X_ : Txt T K mg) (G_is_integer_1 : FnM T P w K mg base k "is_integer" 1 [] f_is_integer) (me : Meets' 3 3 (m_is_within f_is_integer) mf) :
    FnG P w K mg base (L2.CX P w) (k + 1) f fd ["value", "least", "most"] (spM T K 3 mf) := by
  refine ok_def (N := N_is_within) (m := m_is_within f_is_integer) F sc_is_within rfl (fun cdv A outer s H E bx => ?_) me
  exact (sss_cons (ss_ret (se_and (se_call G_is_integer_1 bx.tk bx.hr (sa_cons (se_var 0) sa_nil)) (se_one (se_leLe (se_var 1) (se_var 0) (se_var 2))))) sss_nil)
abbrev s_is_sequence : Stmt := top 15
abbrev N_is_sequence : List Str := ["value"]
theorem sc_is_sequence : FnScope N_is_sequence ["value"] (defScope s_is_sequence) := ⟨rfl, rfl, rfl, by decide +kernel, rfl, by decide +kernel, by decide +kernel⟩
def m_is_sequence : MS := (sSeq (sRet (mUn (fIsi ["list", "tuple"]) (mVar 0))) sNext)
theorem ok_is_sequence {f : Addr} {fd : FuncData} {mf : MF} (F : Fun K "is_sequence" "is_sequence" s_is_sequence f fd) (X_ : Txt T K mg)  (me : Meets' 1 1 (m_is_sequence) mf) :
    FnG P w K mg base (L2.CX P w) (k + 1) f fd ["value"] (spM T K 1 mf) := by
  refine ok_def (N := N_is_sequence) (m := m_is_sequence) F sc_is_sequence rfl (fun cdv A outer s H E bx => ?_) me
  exact (sss_cons (ss_ret (se_isi2 X_.b_isinstance X_.b_list X_.b_tuple (se_var 0))) sss_nil)
abbrev s_common_divisor : Stmt := top 16
abbrev N_common_divisor : List Str := ["one", "other"]
theorem sc_common_divisor : FnScope N_common_divisor ["one", "other"] (defScope s_common_divisor) := ⟨rfl, rfl, rfl, by decide +kernel, rfl, by decide +kernel, by decide +kernel⟩
def wh_common_divisor_0 : MS := sWhile nb_gcd (mBin fNeD (mVar 1) (mC (.int 0))) (sSeq (sPar 0 1 (mCons (mVar 1) (mCons (mBin fMod (mVar 0) (mVar 1)) mNil))) sNext)
def m_common_divisor : MS := (sSeq (wh_common_divisor_0) (sSeq (sRet (mVar 0)) sNext))
theorem ok_common_divisor {f : Addr} {fd : FuncData} {mf : MF} (F : Fun K "common_divisor" "common_divisor" s_common_divisor f fd) (X_ : Txt T K mg)  (me : Meets' 2 2 (m_common_divisor) mf) :
    FnG P w K mg base (L2.CX P w) (k + 1) f fd ["one", "other"] (spM T K 2 mf) := by
  refine ok_def (N := N_common_divisor) (m := m_common_divisor) F sc_common_divisor rfl (fun cdv A outer s H E bx => ?_) me
  exact (sss_cons (ss_while nb_gcd bx.po (st_ne bx.hu (se_var 1) se_int) (sss_cons (ss_par rfl sc_common_divisor.nd (sa_cons (se_var 1) (sa_cons (se_mod (se_var 0) (se_var 1)) sa_nil)) (i := 0) (j := 1)) sss_nil)) (sss_cons (ss_ret (se_var 0)) sss_nil))
abbrev s_common_multiple : Stmt := top 17
abbrev N_common_multiple : List Str := ["one", "other"]
theorem sc_common_multiple : FnScope N_common_multiple ["one", "other"] (defScope s_common_multiple) := ⟨rfl, rfl, rfl, by decide +kernel, rfl, by decide +kernel, by decide +kernel⟩
def m_common_multiple (f_common_divisor : MF) : MS := (sSeq (sRet (mBin fMul (mBin fDiv (mVar 0) (mCall 2 f_common_divisor [] (mCons (mVar 0) (mCons (mVar 1) mNil)))) (mVar 1))) sNext)
theorem ok_common_multiple {f : Addr} {fd : FuncData} {mf : MF} {f_common_divisor : MF} (F : Fun K "common_multiple" "common_multiple" s_common_multiple f fd) (X_ : Txt T K mg) (G_common_divisor_2 : FnM T P w K mg base k "common_divisor" 2 [] f_common_divisor) (me : Meets' 2 2 (m_common_multiple f_common_divisor) mf) :
    FnG P w K mg base (L2.CX P w) (k + 1) f fd ["one", "other"] (spM T K 2 mf) := by
  refine ok_def (N := N_common_multiple) (m := m_common_multiple f_common_divisor) F sc_common_multiple rfl (fun cdv A outer s H E bx => ?_) me
  exact (sss_cons (ss_ret (se_mul (se_div (se_var 0) (se_call G_common_divisor_2 bx.tk bx.hr (sa_cons (se_var 0) (sa_cons (se_var 1) sa_nil)))) (se_var 1))) sss_nil)
abbrev s_least_terms : Stmt := top 18
abbrev N_least_terms : List Str := ["top", "bottom", "common"]
theorem sc_least_terms : FnScope N_least_terms ["top", "bottom"] (defScope s_least_terms) := ⟨rfl, rfl, rfl, by decide +kernel, rfl, by decide +kernel, by decide +kernel⟩
def m_least_terms (f_common_divisor : MF) : MS := (sSeq (sAsg (mCall 2 f_common_divisor [] (mCons (mVar 0) (mCons (mVar 1) mNil))) (gN 2)) (sSeq (sRet (mTup (mCons (mBin fDiv (mVar 0) (mVar 2)) (mCons (mBin fDiv (mVar 1) (mVar 2)) mNil)))) sNext))
theorem ok_least_terms {f : Addr} {fd : FuncData} {mf : MF} {f_common_divisor : MF} (F : Fun K "least_terms" "least_terms" s_least_terms f fd) (X_ : Txt T K mg) (G_common_divisor_2 : FnM T P w K mg base k "common_divisor" 2 [] f_common_divisor) (me : Meets' 2 3 (m_least_terms f_common_divisor) mf) :
    FnG P w K mg base (L2.CX P w) (k + 1) f fd ["top", "bottom"] (spM T K 2 mf) := by
  refine ok_def (N := N_least_terms) (m := m_least_terms f_common_divisor) F sc_least_terms rfl (fun cdv A outer s H E bx => ?_) me
  exact (sss_cons (ss_asg (se_call G_common_divisor_2 bx.tk bx.hr (sa_cons (se_var 0) (sa_cons (se_var 1) sa_nil))) (sg_name 2 sc_least_terms.nd)) (sss_cons (ss_ret (se_tup (sa_cons (se_div (se_var 0) (se_var 2)) (sa_cons (se_div (se_var 1) (se_var 2)) sa_nil)))) sss_nil))
abbrev s_check_marks : Stmt := top 20
abbrev N_check_marks : List Str := ["value", "at", "marks"]
theorem sc_check_marks : FnScope N_check_marks ["value"] (defScope s_check_marks) := ⟨rfl, rfl, rfl, by decide +kernel, rfl, by decide +kernel, by decide +kernel⟩
def lp_check_marks_0 (f_is_sequence : MF) (f_is_within : MF) : MS := sFor (iEnum' (mCons (mVar 0) mNil)) (gT 2 (gConss (gN 1) (gConss (gN 2) gNils))) (sSeq (sIf (mNot (mCall 3 f_is_within [] (mCons (mVar 2) (mCons (mC (.int 1)) (mCons (mC (.int 60)) mNil))))) sNo sNext) sNext)
def m_check_marks (f_is_sequence : MF) (f_is_within : MF) : MS := (sSeq (sIf (mOr (mNot (mCall 1 f_is_sequence [] (mCons (mVar 0) mNil))) (mNot (mChain fLe fLe (mC (.int 2)) (mCB cLen (mCons (mVar 0) mNil)) (mC (.int 8))))) sNo sNext) (sSeq (lp_check_marks_0 f_is_sequence f_is_within) (sSeq (sRet (mCB cTuple (mCons (mVar 0) mNil))) sNext)))
theorem ok_check_marks {f : Addr} {fd : FuncData} {mf : MF} {f_is_sequence : MF} {f_is_within : MF} (F : Fun K "check_marks" "check_marks" s_check_marks f fd) (X_ : Txt T K mg) (G_is_sequence_1 : FnM T P w K mg base k "is_sequence" 1 [] f_is_sequence) (G_is_within_3 : FnM T P w K mg base k "is_within" 3 [] f_is_within) (me : Meets' 1 3 (m_check_marks f_is_sequence f_is_within) mf) :
    FnG P w K mg base (L2.CX P w) (k + 1) f fd ["value"] (spM T K 1 mf) := by
  refine ok_def (N := N_check_marks) (m := m_check_marks f_is_sequence f_is_within) F sc_check_marks rfl (fun cdv A outer s H E bx => ?_) me
  exact (sss_cons (ss_if (SW.pt (sw_or (st_not (st_val (se_call G_is_sequence_1 bx.tk bx.hr (sa_cons (se_var 0) sa_nil)))) (sw_or1 (st_not (st_leLe se_int (se_len X_.b_len (sa_cons (se_var 0) sa_nil)) (se_globI X_.c_MOST_HANDS)))))) sss_no sss_nil) (sss_cons (ss_for bx.po rfl (si_enum X_.b_enumerate (sa_cons (se_var 0) sa_nil)) (sg_tup rfl (sgs_cons (sg_name 1 sc_check_marks.nd) (sgs_cons (sg_name 2 sc_check_marks.nd) sgs_nil))) (sss_cons (ss_if (st_not (st_val (se_call G_is_within_3 bx.tk bx.hr (sa_cons (se_var 2) (sa_cons se_int (sa_cons (se_globI X_.c_MOST_MARKS) sa_nil)))))) sss_no sss_nil) sss_nil)) (sss_cons (ss_ret (se_tuple X_.b_tuple (sa_cons (se_var 0) sa_nil))) sss_nil)))
abbrev s_Hands_init : Stmt := inClass (top 21) 0
abbrev N_Hands_init : List Str := ["self", "marks"]
theorem sc_Hands_init : FnScope N_Hands_init ["self", "marks"] (defScope s_Hands_init) := ⟨rfl, rfl, rfl, by decide +kernel, rfl, by decide +kernel, by decide +kernel⟩
def m_Hands_init (f_check_marks : MF) : MS := (sSeq (sSetF cs_marks "marks" (mVar 0) (mCall 1 f_check_marks [] (mCons (mVar 1) mNil))) (sSeq (sSetF cs_many "many" (mVar 0) (mCB cLen (mCons (mFld cs_marks "marks" (mVar 0)) mNil))) sNext))
theorem ok_Hands_init {f : Addr} {fd : FuncData} {mf : MF} {f_check_marks : MF} (F : Fun K "__init__" "Hands.__init__" s_Hands_init f fd) (X_ : Txt T K mg) (G_check_marks_1 : FnM T P w K mg base k "check_marks" 1 [] f_check_marks) (me : Meets' 2 2 (m_Hands_init f_check_marks) mf) :
    FnG P w K mg base (L2.CX P w) (k + 1) f fd ["self", "marks"] (spM T K 2 mf) := by
  refine ok_def (N := N_Hands_init) (m := m_Hands_init f_check_marks) F sc_Hands_init rfl (fun cdv A outer s H E bx => ?_) me
  exact (sss_cons (ss_setF (X_.f_marks) (se_var 0) (se_call G_check_marks_1 bx.tk bx.hr (sa_cons (se_var 1) sa_nil))) (sss_cons (ss_setF (X_.f_many) (se_var 0) (se_len X_.b_len (sa_cons (se_fld (X_.f_marks) (se_var 0)) sa_nil))) sss_nil))
abbrev s_sum_of_parts : Stmt := top 22
abbrev N_sum_of_parts : List Str := ["marks", "bottom", "number"]
theorem sc_sum_of_parts : FnScope N_sum_of_parts ["marks"] (defScope s_sum_of_parts) := ⟨rfl, rfl, rfl, by decide +kernel, rfl, by decide +kernel, by decide +kernel⟩
def lp_sum_of_parts_0 (f_common_multiple : MF) (f_least_terms : MF) : MS := sFor (iSeq (mVar 0)) (gN 2) (sSeq (sAsg (mCall 2 f_common_multiple [] (mCons (mVar 1) (mCons (mVar 2) mNil))) (gN 1)) sNext)
def lc_sum_of_parts_0 (f_common_multiple : MF) (f_least_terms : MF) : ME := mLc (iSeq (mVar 0)) (gN 2) mYes (mBin fDiv (mVar 1) (mVar 2)) [2]
def m_sum_of_parts (f_common_multiple : MF) (f_least_terms : MF) : MS := (sSeq (sAsg (mC (.int 1)) (gN 1)) (sSeq (lp_sum_of_parts_0 f_common_multiple f_least_terms) (sSeq (sRet (mCall 2 f_least_terms [] (mCons (mCB cSum (mCons (lc_sum_of_parts_0 f_common_multiple f_least_terms) mNil)) (mCons (mVar 1) mNil)))) sNext)))
theorem ok_sum_of_parts {f : Addr} {fd : FuncData} {mf : MF} {f_common_multiple : MF} {f_least_terms : MF} (F : Fun K "sum_of_parts" "sum_of_parts" s_sum_of_parts f fd) (X_ : Txt T K mg) (G_common_multiple_2 : FnM T P w K mg base k "common_multiple" 2 [] f_common_multiple) (G_least_terms_2 : FnM T P w K mg base k "least_terms" 2 [] f_least_terms) (me : Meets' 1 3 (m_sum_of_parts f_common_multiple f_least_terms) mf) :
    FnG P w K mg base (L2.CX P w) (k + 1) f fd ["marks"] (spM T K 1 mf) := by
  refine ok_def (N := N_sum_of_parts) (m := m_sum_of_parts f_common_multiple f_least_terms) F sc_sum_of_parts rfl (fun cdv A outer s H E bx => ?_) me
  exact (sss_cons (ss_asg se_int (sg_name 1 sc_sum_of_parts.nd)) (sss_cons (ss_for bx.po rfl (si_seq (se_var 0)) (sg_name 2 sc_sum_of_parts.nd) (sss_cons (ss_asg (se_call G_common_multiple_2 bx.tk bx.hr (sa_cons (se_var 1) (sa_cons (se_var 2) sa_nil))) (sg_name 1 sc_sum_of_parts.nd)) sss_nil)) (sss_cons (ss_ret (se_call G_least_terms_2 bx.tk bx.hr (sa_cons (se_sum X_.b_sum (sa_cons (se_lc (own := [("number", 2)]) rfl sc_sum_of_parts.nd (by show BlkOk N_sum_of_parts (defScope s_sum_of_parts) _ [("number", 2)]; exact ⟨rfl, by decide +kernel, by decide +kernel, by decide +kernel, by decide +kernel⟩) (si_seq (se_var 0)) (fun _ _ _ _ _ => (sgw_name 2 sc_sum_of_parts.nd)) (fun _ _ _ _ _ => (se_div (se_var 1) (se_var 2)))) sa_nil)) (sa_cons (se_var 1) sa_nil)))) sss_nil)))
abbrev s_share : Stmt := top 23
abbrev N_share : List Str := ["hands"]
theorem sc_share : FnScope N_share ["hands"] (defScope s_share) := ⟨rfl, rfl, rfl, by decide +kernel, rfl, by decide +kernel, by decide +kernel⟩
def m_share (f_sum_of_parts : MF) : MS := (sSeq (sRet (mCall 1 f_sum_of_parts [] (mCons (mFld cs_marks "marks" (mVar 0)) mNil))) sNext)
theorem ok_share {f : Addr} {fd : FuncData} {mf : MF} {f_sum_of_parts : MF} (F : Fun K "share" "share" s_share f fd) (X_ : Txt T K mg) (G_sum_of_parts_1 : FnM T P w K mg base k "sum_of_parts" 1 [] f_sum_of_parts) (me : Meets' 1 1 (m_share f_sum_of_parts) mf) :
    FnG P w K mg base (L2.CX P w) (k + 1) f fd ["hands"] (spM T K 1 mf) := by
  refine ok_def (N := N_share) (m := m_share f_sum_of_parts) F sc_share rfl (fun cdv A outer s H E bx => ?_) me
  exact (sss_cons (ss_ret (se_call G_sum_of_parts_1 bx.tk bx.hr (sa_cons (se_fld (X_.f_marks) (se_var 0)) sa_nil))) sss_nil)
abbrev s_need_telling : Stmt := top 24
abbrev N_need_telling : List Str := ["hands", "top", "bottom"]
theorem sc_need_telling : FnScope N_need_telling ["hands"] (defScope s_need_telling) := ⟨rfl, rfl, rfl, by decide +kernel, rfl, by decide +kernel, by decide +kernel⟩
def m_need_telling (f_share : MF) : MS := (sSeq (sAsg (mCall 1 f_share [] (mCons (mVar 0) mNil)) (gT 2 (gConss (gN 1) (gConss (gN 2) gNils)))) (sSeq (sIf (mBin fGt (mVar 1) (mVar 2)) sNo sNext) (sSeq (sRet (mVar 0)) sNext)))
theorem ok_need_telling {f : Addr} {fd : FuncData} {mf : MF} {f_share : MF} (F : Fun K "need_telling" "need_telling" s_need_telling f fd) (X_ : Txt T K mg) (G_share_1 : FnM T P w K mg base k "share" 1 [] f_share) (me : Meets' 1 3 (m_need_telling f_share) mf) :
    FnG P w K mg base (L2.CX P w) (k + 1) f fd ["hands"] (spM T K 1 mf) := by
  refine ok_def (N := N_need_telling) (m := m_need_telling f_share) F sc_need_telling rfl (fun cdv A outer s H E bx => ?_) me
  exact (sss_cons (ss_asg (se_call G_share_1 bx.tk bx.hr (sa_cons (se_var 0) sa_nil)) (sg_tup rfl (sgs_cons (sg_name 1 sc_need_telling.nd) (sgs_cons (sg_name 2 sc_need_telling.nd) sgs_nil)))) (sss_cons (ss_if (st_gt (se_var 1) (se_var 2)) sss_no sss_nil) (sss_cons (ss_ret (se_var 0)) sss_nil)))
abbrev s_check_story : Stmt := top 25
abbrev N_check_story : List Str := ["hands", "value", "at", "hand"]
theorem sc_check_story : FnScope N_check_story ["hands", "value"] (defScope s_check_story) := ⟨rfl, rfl, rfl, by decide +kernel, rfl, by decide +kernel, by decide +kernel⟩
def lp_check_story_0 (f_is_sequence : MF) (f_is_below : MF) : MS := sFor (iEnum' (mCons (mVar 1) mNil)) (gT 2 (gConss (gN 2) (gConss (gN 3) gNils))) (sSeq (sIf (mNot (mCall 2 f_is_below [] (mCons (mVar 3) (mCons (mFld cs_many "many" (mVar 0)) mNil)))) sNo sNext) sNext)
def m_check_story (f_is_sequence : MF) (f_is_below : MF) : MS := (sSeq (sIf (mOr (mNot (mCall 1 f_is_sequence [] (mCons (mVar 1) mNil))) (mBin fGt (mCB cLen (mCons (mVar 1) mNil)) (mC (.int 10000)))) sNo sNext) (sSeq (lp_check_story_0 f_is_sequence f_is_below) (sSeq (sRet (mCB cTuple (mCons (mVar 1) mNil))) sNext)))
theorem ok_check_story {f : Addr} {fd : FuncData} {mf : MF} {f_is_sequence : MF} {f_is_below : MF} (F : Fun K "check_story" "check_story" s_check_story f fd) (X_ : Txt T K mg) (G_is_sequence_1 : FnM T P w K mg base k "is_sequence" 1 [] f_is_sequence) (G_is_below_2 : FnM T P w K mg base k "is_below" 2 [] f_is_below) (me : Meets' 2 4 (m_check_story f_is_sequence f_is_below) mf) :
    FnG P w K mg base (L2.CX P w) (k + 1) f fd ["hands", "value"] (spM T K 2 mf) := by
  refine ok_def (N := N_check_story) (m := m_check_story f_is_sequence f_is_below) F sc_check_story rfl (fun cdv A outer s H E bx => ?_) me
  exact (sss_cons (ss_if (SW.pt (sw_or (st_not (st_val (se_call G_is_sequence_1 bx.tk bx.hr (sa_cons (se_var 1) sa_nil)))) (sw_or1 (st_gt (se_len X_.b_len (sa_cons (se_var 1) sa_nil)) (se_globI X_.c_MOST_STORY))))) sss_no sss_nil) (sss_cons (ss_for bx.po rfl (si_enum X_.b_enumerate (sa_cons (se_var 1) sa_nil)) (sg_tup rfl (sgs_cons (sg_name 2 sc_check_story.nd) (sgs_cons (sg_name 3 sc_check_story.nd) sgs_nil))) (sss_cons (ss_if (st_not (st_val (se_call G_is_below_2 bx.tk bx.hr (sa_cons (se_var 3) (sa_cons (se_fld (X_.f_many) (se_var 0)) sa_nil))))) sss_no sss_nil) sss_nil)) (sss_cons (ss_ret (se_tuple X_.b_tuple (sa_cons (se_var 1) sa_nil))) sss_nil)))
abbrev s_laid_out : Stmt := top 27
abbrev N_laid_out : List Str := ["sizes", "found", "first", "size"]
theorem sc_laid_out : FnScope N_laid_out ["sizes"] (defScope s_laid_out) := ⟨rfl, rfl, rfl, by decide +kernel, rfl, by decide +kernel, by decide +kernel⟩
def lp_laid_out_0 : MS := sFor (iSeq (mVar 0)) (gN 3) (sSeq (sExpr (mApp (mVar 1) (mTup (mCons (mVar 2) (mCons (mBin fAdd (mVar 2) (mVar 3)) mNil))))) (sSeq (sAug 2 (fInt fun i j => some (.int (i + j))) (mVar 3)) sNext))
def m_laid_out : MS := (sSeq (sAsg (mLstC mNil) (gN 1)) (sSeq (sAsg (mC (.int 0)) (gN 2)) (sSeq (lp_laid_out_0) (sSeq (sRet (mCB cTuple (mCons (mVar 1) mNil))) sNext))))
theorem ok_laid_out {f : Addr} {fd : FuncData} {mf : MF} (F : Fun K "laid_out" "laid_out" s_laid_out f fd) (X_ : Txt T K mg)  (me : Meets' 1 4 (m_laid_out) mf) :
    FnG P w K mg base (L2.CX P w) (k + 1) f fd ["sizes"] (spM T K 1 mf) := by
  refine ok_def (N := N_laid_out) (m := m_laid_out) F sc_laid_out rfl (fun cdv A outer s H E bx => ?_) me
  exact (sss_cons (ss_asg (se_lstC sa_nil) (sg_name 1 sc_laid_out.nd)) (sss_cons (ss_asg se_int (sg_name 2 sc_laid_out.nd)) (sss_cons (ss_for bx.po rfl (si_seq (se_var 0)) (sg_name 3 sc_laid_out.nd) (sss_cons (ss_expr (se_app (se_var 1) (se_tup (sa_cons (se_var 2) (sa_cons (se_add (se_var 2) (se_var 3)) sa_nil))))) (sss_cons (ss_augAdd (i := 2) sc_laid_out.nd (se_var 3)) sss_nil))) (sss_cons (ss_ret (se_tuple X_.b_tuple (sa_cons (se_var 1) sa_nil))) sss_nil))))
abbrev s_stretch_with : Stmt := top 28
abbrev N_stretch_with : List Str := ["stretches", "place", "number", "first", "behind"]
theorem sc_stretch_with : FnScope N_stretch_with ["stretches", "place"] (defScope s_stretch_with) := ⟨rfl, rfl, rfl, by decide +kernel, rfl, by decide +kernel, by decide +kernel⟩
def lp_stretch_with_0 : MS := sFor (iEnum' (mCons (mVar 0) mNil)) (gT 2 (gConss (gN 2) (gConss (gT 2 (gConss (gN 3) (gConss (gN 4) gNils))) gNils))) (sSeq (sIf (mChain fLe fLt (mVar 3) (mVar 1) (mVar 4)) (sSeq (sRet (mVar 2)) sNext) sNext) sNext)
def m_stretch_with : MS := (sSeq (lp_stretch_with_0) (sSeq (sRet (mC .non)) sNext))
theorem ok_stretch_with {f : Addr} {fd : FuncData} {mf : MF} (F : Fun K "stretch_with" "stretch_with" s_stretch_with f fd) (X_ : Txt T K mg)  (me : Meets' 2 5 (m_stretch_with) mf) :
    FnG P w K mg base (L2.CX P w) (k + 1) f fd ["stretches", "place"] (spM T K 2 mf) := by
  refine ok_def (N := N_stretch_with) (m := m_stretch_with) F sc_stretch_with rfl (fun cdv A outer s H E bx => ?_) me
  exact (sss_cons (ss_for bx.po rfl (si_enum X_.b_enumerate (sa_cons (se_var 0) sa_nil)) (sg_tup rfl (sgs_cons (sg_name 2 sc_stretch_with.nd) (sgs_cons (sg_tup rfl (sgs_cons (sg_name 3 sc_stretch_with.nd) (sgs_cons (sg_name 4 sc_stretch_with.nd) sgs_nil))) sgs_nil))) (sss_cons (ss_if (st_leLt (se_var 3) (se_var 1) (se_var 4)) (sss_cons (ss_ret (se_var 2)) sss_nil) sss_nil) sss_nil)) (sss_cons (ss_ret se_non) sss_nil))
abbrev s_is_log : Stmt := top 30
abbrev N_is_log : List Str := ["value", "marks", "mark"]
theorem sc_is_log : FnScope N_is_log ["value", "marks"] (defScope s_is_log) := ⟨rfl, rfl, rfl, by decide +kernel, rfl, by decide +kernel, by decide +kernel⟩
def lc_is_log_0 (f_is_sequence : MF) (f_is_below : MF) : ME := mLc (iSeq (mVar 0)) (gN 2) mYes (mCall 2 f_is_below [] (mCons (mVar 2) (mCons (mVar 1) mNil))) [2]
def m_is_log (f_is_sequence : MF) (f_is_below : MF) : MS := (sSeq (sRet (mAnd (mCall 1 f_is_sequence [] (mCons (mVar 0) mNil)) (mAnd (mBin fLe (mCB cLen (mCons (mVar 0) mNil)) (mC (.int 10000))) (mCB cAll (mCons (lc_is_log_0 f_is_sequence f_is_below) mNil))))) sNext)
theorem ok_is_log {f : Addr} {fd : FuncData} {mf : MF} {f_is_sequence : MF} {f_is_below : MF} (F : Fun K "is_log" "is_log" s_is_log f fd) (X_ : Txt T K mg) (G_is_sequence_1 : FnM T P w K mg base k "is_sequence" 1 [] f_is_sequence) (G_is_below_2 : FnM T P w K mg base k "is_below" 2 [] f_is_below) (me : Meets' 2 3 (m_is_log f_is_sequence f_is_below) mf) :
    FnG P w K mg base (L2.CX P w) (k + 1) f fd ["value", "marks"] (spM T K 2 mf) := by
  refine ok_def (N := N_is_log) (m := m_is_log f_is_sequence f_is_below) F sc_is_log rfl (fun cdv A outer s H E bx => ?_) me
  exact (sss_cons (ss_ret (se_and (se_call G_is_sequence_1 bx.tk bx.hr (sa_cons (se_var 0) sa_nil)) (se_and (se_le (se_len X_.b_len (sa_cons (se_var 0) sa_nil)) (se_globI X_.c_MOST_STORY)) (se_one (se_all X_.b_all (sa_cons (se_lc (own := [("mark", 2)]) rfl sc_is_log.nd (by show BlkOk N_is_log (defScope s_is_log) _ [("mark", 2)]; exact ⟨rfl, by decide +kernel, by decide +kernel, by decide +kernel, by decide +kernel⟩) (si_seq (se_var 0)) (fun _ _ _ _ _ => (sgw_name 2 sc_is_log.nd)) (fun _ _ _ _ _ => (se_call G_is_below_2 takesF bx.hr (sa_cons (se_var 2) (sa_cons (se_var 1) sa_nil))))) sa_nil)))))) sss_nil)
abbrev s_check_logs : Stmt := top 31
abbrev N_check_logs : List Str := ["hands", "value", "at", "log"]
theorem sc_check_logs : FnScope N_check_logs ["hands", "value"] (defScope s_check_logs) := ⟨rfl, rfl, rfl, by decide +kernel, rfl, by decide +kernel, by decide +kernel⟩
def lp_check_logs_0 (f_is_sequence : MF) (f_is_log : MF) : MS := sFor (iEnum' (mCons (mVar 1) mNil)) (gT 2 (gConss (gN 2) (gConss (gN 3) gNils))) (sSeq (sIf (mNot (mCall 2 f_is_log [] (mCons (mVar 3) (mCons (mBin fIx (mFld cs_marks "marks" (mVar 0)) (mVar 2)) mNil)))) sNo sNext) sNext)
def lc_check_logs_0 (f_is_sequence : MF) (f_is_log : MF) : ME := mLc (iSeq (mVar 1)) (gN 3) mYes (mCB cTuple (mCons (mVar 3) mNil)) [3]
def m_check_logs (f_is_sequence : MF) (f_is_log : MF) : MS := (sSeq (sIf (mOr (mNot (mCall 1 f_is_sequence [] (mCons (mVar 1) mNil))) (mBin fNeD (mCB cLen (mCons (mVar 1) mNil)) (mFld cs_many "many" (mVar 0)))) sNo sNext) (sSeq (lp_check_logs_0 f_is_sequence f_is_log) (sSeq (sRet (mCB cTuple (mCons (lc_check_logs_0 f_is_sequence f_is_log) mNil))) sNext)))
theorem ok_check_logs {f : Addr} {fd : FuncData} {mf : MF} {f_is_sequence : MF} {f_is_log : MF} (F : Fun K "check_logs" "check_logs" s_check_logs f fd) (X_ : Txt T K mg) (G_is_sequence_1 : FnM T P w K mg base k "is_sequence" 1 [] f_is_sequence) (G_is_log_2 : FnM T P w K mg base k "is_log" 2 [] f_is_log) (me : Meets' 2 4 (m_check_logs f_is_sequence f_is_log) mf) :
    FnG P w K mg base (L2.CX P w) (k + 1) f fd ["hands", "value"] (spM T K 2 mf) := by
  refine ok_def (N := N_check_logs) (m := m_check_logs f_is_sequence f_is_log) F sc_check_logs rfl (fun cdv A outer s H E bx => ?_) me
  exact (sss_cons (ss_if (SW.pt (sw_or (st_not (st_val (se_call G_is_sequence_1 bx.tk bx.hr (sa_cons (se_var 1) sa_nil)))) (sw_or1 (st_ne bx.hu (se_len X_.b_len (sa_cons (se_var 1) sa_nil)) (se_fld (X_.f_many) (se_var 0)))))) sss_no sss_nil) (sss_cons (ss_for bx.po rfl (si_enum X_.b_enumerate (sa_cons (se_var 1) sa_nil)) (sg_tup rfl (sgs_cons (sg_name 2 sc_check_logs.nd) (sgs_cons (sg_name 3 sc_check_logs.nd) sgs_nil))) (sss_cons (ss_if (st_not (st_val (se_call G_is_log_2 bx.tk bx.hr (sa_cons (se_var 3) (sa_cons (se_ix (se_fld (X_.f_marks) (se_var 0)) (se_var 2)) sa_nil))))) sss_no sss_nil) sss_nil)) (sss_cons (ss_ret (se_tuple X_.b_tuple (sa_cons (se_lc (own := [("log", 3)]) rfl sc_check_logs.nd (by show BlkOk N_check_logs (defScope s_check_logs) _ [("log", 3)]; exact ⟨rfl, by decide +kernel, by decide +kernel, by decide +kernel, by decide +kernel⟩) (si_seq (se_var 1)) (fun _ _ _ _ _ => (sgw_name 3 sc_check_logs.nd)) (fun _ _ _ _ _ => (se_tuple X_.b_tuple (sa_cons (se_var 3) sa_nil)))) sa_nil))) sss_nil)))
abbrev s_stretch_sizes : Stmt := top 33
abbrev N_stretch_sizes : List Str := ["hands", "number", "many"]
theorem sc_stretch_sizes : FnScope N_stretch_sizes ["hands", "number"] (defScope s_stretch_sizes) := ⟨rfl, rfl, rfl, by decide +kernel, rfl, by decide +kernel, by decide +kernel⟩
def lc_stretch_sizes_0 : ME := mLc (iSeq (mFld cs_marks "marks" (mVar 0))) (gN 2) mYes (mUn fNeg (mBin fDiv (mUn fNeg (mVar 1)) (mVar 2))) [2]
def m_stretch_sizes : MS := (sSeq (sRet (lc_stretch_sizes_0)) sNext)
theorem ok_stretch_sizes {f : Addr} {fd : FuncData} {mf : MF} (F : Fun K "stretch_sizes" "stretch_sizes" s_stretch_sizes f fd) (X_ : Txt T K mg)  (me : Meets' 2 3 (m_stretch_sizes) mf) :
    FnG P w K mg base (L2.CX P w) (k + 1) f fd ["hands", "number"] (spM T K 2 mf) := by
  refine ok_def (N := N_stretch_sizes) (m := m_stretch_sizes) F sc_stretch_sizes rfl (fun cdv A outer s H E bx => ?_) me
  exact (sss_cons (ss_ret (se_lc (own := [("many", 2)]) rfl sc_stretch_sizes.nd (by show BlkOk N_stretch_sizes (defScope s_stretch_sizes) _ [("many", 2)]; exact ⟨rfl, by decide +kernel, by decide +kernel, by decide +kernel, by decide +kernel⟩) (si_seq (se_fld (X_.f_marks) (se_var 0))) (fun _ _ _ _ _ => (sgw_name 2 sc_stretch_sizes.nd)) (fun _ _ _ _ _ => (se_neg (se_div (se_neg (se_var 1)) (se_var 2)))))) sss_nil)
abbrev s_least_number : Stmt := top 34
abbrev N_least_number : List Str := ["hands", "number", "top", "bottom"]
theorem sc_least_number : FnScope N_least_number ["hands"] (defScope s_least_number) := ⟨rfl, rfl, rfl, by decide +kernel, rfl, by decide +kernel, by decide +kernel⟩
def wh_least_number_0 (f_share : MF) (f_stretch_sizes : MF) : MS := sWhile nb_least (mBin fGt (mCB cSum (mCons (mCall 2 f_stretch_sizes [] (mCons (mVar 0) (mCons (mVar 1) mNil))) mNil)) (mVar 1)) (sSeq (sAsg (mCB cSum (mCons (mCall 2 f_stretch_sizes [] (mCons (mVar 0) (mCons (mVar 1) mNil))) mNil)) (gN 1)) sNext)
def m_least_number (f_share : MF) (f_stretch_sizes : MF) : MS := (sSeq (sAsg (mCall 1 f_share [] (mCons (mVar 0) mNil)) (gT 2 (gConss (gN 2) (gConss (gN 3) gNils)))) (sSeq (sIf (mBin fGt (mVar 2) (mVar 3)) (sSeq (sRet (mC .non)) sNext) sNext) (sSeq (sAsg (mC (.int 1)) (gN 1)) (sSeq (wh_least_number_0 f_share f_stretch_sizes) (sSeq (sRet (mVar 1)) sNext)))))
theorem ok_least_number {f : Addr} {fd : FuncData} {mf : MF} {f_share : MF} {f_stretch_sizes : MF} (F : Fun K "least_number" "least_number" s_least_number f fd) (X_ : Txt T K mg) (G_share_1 : FnM T P w K mg base k "share" 1 [] f_share) (G_stretch_sizes_2 : FnM T P w K mg base k "stretch_sizes" 2 [] f_stretch_sizes) (me : Meets' 1 4 (m_least_number f_share f_stretch_sizes) mf) :
    FnG P w K mg base (L2.CX P w) (k + 1) f fd ["hands"] (spM T K 1 mf) := by
  refine ok_def (N := N_least_number) (m := m_least_number f_share f_stretch_sizes) F sc_least_number rfl (fun cdv A outer s H E bx => ?_) me
  exact (sss_cons (ss_asg (se_call G_share_1 bx.tk bx.hr (sa_cons (se_var 0) sa_nil)) (sg_tup rfl (sgs_cons (sg_name 2 sc_least_number.nd) (sgs_cons (sg_name 3 sc_least_number.nd) sgs_nil)))) (sss_cons (ss_if (st_gt (se_var 2) (se_var 3)) (sss_cons (ss_ret se_non) sss_nil) sss_nil) (sss_cons (ss_asg se_int (sg_name 1 sc_least_number.nd)) (sss_cons (ss_while nb_least bx.po (st_gt (se_sum X_.b_sum (sa_cons (se_call G_stretch_sizes_2 bx.tk bx.hr (sa_cons (se_var 0) (sa_cons (se_var 1) sa_nil))) sa_nil)) (se_var 1)) (sss_cons (ss_asg (se_sum X_.b_sum (sa_cons (se_call G_stretch_sizes_2 bx.tk bx.hr (sa_cons (se_var 0) (sa_cons (se_var 1) sa_nil))) sa_nil)) (sg_name 1 sc_least_number.nd)) sss_nil)) (sss_cons (ss_ret (se_var 1)) sss_nil)))))
abbrev s_Digits_init : Stmt := inClass (top 35) 0
abbrev N_Digits_init : List Str := ["self", "hands", "number"]
theorem sc_Digits_init : FnScope N_Digits_init ["self", "hands", "number"] (defScope s_Digits_init) := ⟨rfl, rfl, rfl, by decide +kernel, rfl, by decide +kernel, by decide +kernel⟩
def m_Digits_init (f_need_telling : MF) (f_least_number : MF) (f_is_number : MF) (f_stretch_sizes : MF) (f_laid_out : MF) : MS := (sSeq (sExpr (mCall 1 f_need_telling [] (mCons (mVar 1) mNil))) (sSeq (sIf (mBin fIs (mVar 2) (mC .non)) (sSeq (sAsg (mCall 1 f_least_number [] (mCons (mVar 1) mNil)) (gN 2)) sNext) (sSeq (sIf (mOr (mNot (mCall 1 f_is_number [] (mCons (mVar 2) mNil))) (mOr (mBin fEqD (mVar 2) (mC (.int 0))) (mBin fGt (mCB cSum (mCons (mCall 2 f_stretch_sizes [] (mCons (mVar 1) (mCons (mVar 2) mNil))) mNil)) (mVar 2)))) sNo sNext) sNext)) (sSeq (sSetF cs_hands "hands" (mVar 0) (mVar 1)) (sSeq (sSetF cs_number "number" (mVar 0) (mVar 2)) (sSeq (sSetF cs_stretches "stretches" (mVar 0) (mCall 1 f_laid_out [] (mCons (mCall 2 f_stretch_sizes [] (mCons (mVar 1) (mCons (mVar 2) mNil))) mNil))) sNext)))))
theorem ok_Digits_init {f : Addr} {fd : FuncData} {mf : MF} {f_need_telling : MF} {f_least_number : MF} {f_is_number : MF} {f_stretch_sizes : MF} {f_laid_out : MF} {dvs : List V} {kws : List (Str × V)} (F : FunD K "__init__" "Digits.__init__" (defArgs s_Digits_init) (defBody s_Digits_init) (defScope s_Digits_init) dvs kws f fd) (X_ : Txt T K mg) (G_need_telling_1 : FnM T P w K mg base k "need_telling" 1 [] f_need_telling) (G_least_number_1 : FnM T P w K mg base k "least_number" 1 [] f_least_number) (G_is_number_1 : FnM T P w K mg base k "is_number" 1 [] f_is_number) (G_stretch_sizes_2 : FnM T P w K mg base k "stretch_sizes" 2 [] f_stretch_sizes) (G_laid_out_1 : FnM T P w K mg base k "laid_out" 1 [] f_laid_out) (me : Meets' 3 3 (m_Digits_init f_need_telling f_least_number f_is_number f_stretch_sizes f_laid_out) mf) :
    FnG P w K mg base (L2.CX P w) (k + 1) f fd ["self", "hands", "number"] (spM T K 3 mf) := by
  refine ok_defD (N := N_Digits_init) (m := m_Digits_init f_need_telling f_least_number f_is_number f_stretch_sizes f_laid_out) F sc_Digits_init rfl (fun cdv A outer s H E bx => ?_) me
  exact (sss_cons (ss_expr (se_call G_need_telling_1 bx.tk bx.hr (sa_cons (se_var 1) sa_nil))) (sss_cons (ss_if (st_is (se_var 2) se_non) (sss_cons (ss_asg (se_call G_least_number_1 bx.tk bx.hr (sa_cons (se_var 1) sa_nil)) (sg_name 2 sc_Digits_init.nd)) sss_nil) (sss_cons (ss_if (SW.pt (sw_or (st_not (st_val (se_call G_is_number_1 bx.tk bx.hr (sa_cons (se_var 2) sa_nil)))) (sw_or (st_eq bx.hu (se_var 2) se_int) (sw_or1 (st_gt (se_sum X_.b_sum (sa_cons (se_call G_stretch_sizes_2 bx.tk bx.hr (sa_cons (se_var 1) (sa_cons (se_var 2) sa_nil))) sa_nil)) (se_var 2)))))) sss_no sss_nil) sss_nil)) (sss_cons (ss_setF (X_.f_hands) (se_var 0) (se_var 1)) (sss_cons (ss_setF (X_.f_number) (se_var 0) (se_var 2)) (sss_cons (ss_setF (X_.f_stretches) (se_var 0) (se_call G_laid_out_1 bx.tk bx.hr (sa_cons (se_call G_stretch_sizes_2 bx.tk bx.hr (sa_cons (se_var 1) (sa_cons (se_var 2) sa_nil))) sa_nil))) sss_nil)))))
abbrev s_need_place : Stmt := top 36
abbrev N_need_place : List Str := ["digits", "place"]
theorem sc_need_place : FnScope N_need_place ["digits", "place"] (defScope s_need_place) := ⟨rfl, rfl, rfl, by decide +kernel, rfl, by decide +kernel, by decide +kernel⟩
def m_need_place (f_is_below : MF) : MS := (sSeq (sIf (mNot (mCall 2 f_is_below [] (mCons (mVar 1) (mCons (mFld cs_number "number" (mVar 0)) mNil)))) sNo sNext) (sSeq (sRet (mVar 1)) sNext))
theorem ok_need_place {f : Addr} {fd : FuncData} {mf : MF} {f_is_below : MF} (F : Fun K "need_place" "need_place" s_need_place f fd) (X_ : Txt T K mg) (G_is_below_2 : FnM T P w K mg base k "is_below" 2 [] f_is_below) (me : Meets' 2 2 (m_need_place f_is_below) mf) :
    FnG P w K mg base (L2.CX P w) (k + 1) f fd ["digits", "place"] (spM T K 2 mf) := by
  refine ok_def (N := N_need_place) (m := m_need_place f_is_below) F sc_need_place rfl (fun cdv A outer s H E bx => ?_) me
  exact (sss_cons (ss_if (st_not (st_val (se_call G_is_below_2 bx.tk bx.hr (sa_cons (se_var 1) (sa_cons (se_fld (X_.f_number) (se_var 0)) sa_nil))))) sss_no sss_nil) (sss_cons (ss_ret (se_var 1)) sss_nil))
abbrev s_step_on : Stmt := top 37
abbrev N_step_on : List Str := ["digits", "place", "hand", "many"]
theorem sc_step_on : FnScope N_step_on ["digits", "place", "hand"] (defScope s_step_on) := ⟨rfl, rfl, rfl, by decide +kernel, rfl, by decide +kernel, by decide +kernel⟩
def m_step_on : MS := (sSeq (sAsg (mBin fIx (mFld cs_marks "marks" (mFld cs_hands "hands" (mVar 0))) (mVar 2)) (gN 3)) (sSeq (sRet (mTup (mCons (mBin fAdd (mBin fIx (mBin fIx (mFld cs_stretches "stretches" (mVar 0)) (mVar 2)) (mC (.int 0))) (mBin fDiv (mVar 1) (mVar 3))) (mCons (mBin fMod (mVar 1) (mVar 3)) mNil)))) sNext))
theorem ok_step_on {f : Addr} {fd : FuncData} {mf : MF} (F : Fun K "step_on" "step_on" s_step_on f fd) (X_ : Txt T K mg)  (me : Meets' 3 4 (m_step_on) mf) :
    FnG P w K mg base (L2.CX P w) (k + 1) f fd ["digits", "place", "hand"] (spM T K 3 mf) := by
  refine ok_def (N := N_step_on) (m := m_step_on) F sc_step_on rfl (fun cdv A outer s H E bx => ?_) me
  exact (sss_cons (ss_asg (se_ix (se_fld (X_.f_marks) (se_fld (X_.f_hands) (se_var 0))) (se_var 2)) (sg_name 3 sc_step_on.nd)) (sss_cons (ss_ret (se_tup (sa_cons (se_add (se_ix (se_ix (se_fld (X_.f_stretches) (se_var 0)) (se_var 2)) se_int) (se_div (se_var 1) (se_var 3))) (sa_cons (se_mod (se_var 1) (se_var 3)) sa_nil)))) sss_nil))
abbrev s_place_ahead : Stmt := top 38
abbrev N_place_ahead : List Str := ["digits", "place", "hand", "mark", "found"]
theorem sc_place_ahead : FnScope N_place_ahead ["digits", "place", "hand", "mark"] (defScope s_place_ahead) := ⟨rfl, rfl, rfl, by decide +kernel, rfl, by decide +kernel, by decide +kernel⟩
def m_place_ahead : MS := (sSeq (sAsg (mBin fAdd (mBin fMul (mBin fSub (mVar 1) (mBin fIx (mBin fIx (mFld cs_stretches "stretches" (mVar 0)) (mVar 2)) (mC (.int 0)))) (mBin fIx (mFld cs_marks "marks" (mFld cs_hands "hands" (mVar 0))) (mVar 2))) (mVar 3)) (gN 4)) (sSeq (sRet (mIf (mBin fLt (mVar 4) (mFld cs_number "number" (mVar 0))) (mVar 4) (mC .non))) sNext))
theorem ok_place_ahead {f : Addr} {fd : FuncData} {mf : MF} (F : Fun K "place_ahead" "place_ahead" s_place_ahead f fd) (X_ : Txt T K mg)  (me : Meets' 4 5 (m_place_ahead) mf) :
    FnG P w K mg base (L2.CX P w) (k + 1) f fd ["digits", "place", "hand", "mark"] (spM T K 4 mf) := by
  refine ok_def (N := N_place_ahead) (m := m_place_ahead) F sc_place_ahead rfl (fun cdv A outer s H E bx => ?_) me
  exact (sss_cons (ss_asg (se_add (se_mul (se_sub (se_var 1) (se_ix (se_ix (se_fld (X_.f_stretches) (se_var 0)) (se_var 2)) se_int)) (se_ix (se_fld (X_.f_marks) (se_fld (X_.f_hands) (se_var 0))) (se_var 2))) (se_var 3)) (sg_name 4 sc_place_ahead.nd)) (sss_cons (ss_ret (se_if (st_lt (se_var 4) (se_fld (X_.f_number) (se_var 0))) (se_var 4) se_non)) sss_nil))
abbrev s_digit_logs : Stmt := top 39
abbrev N_digit_logs : List Str := ["digits", "story", "place", "told", "logs", "hand", "mark", "_", "log"]
theorem sc_digit_logs : FnScope N_digit_logs ["digits", "story", "place"] (defScope s_digit_logs) := ⟨rfl, rfl, rfl, by decide +kernel, rfl, by decide +kernel, by decide +kernel⟩
def lc_digit_logs_0 (f_check_story : MF) (f_need_place : MF) (f_step_on : MF) : ME := mLc (iSeq (mFld cs_marks "marks" (mFld cs_hands "hands" (mVar 0)))) (gN 7) mYes (mLstC mNil) [7]
def lp_digit_logs_0 (f_check_story : MF) (f_need_place : MF) (f_step_on : MF) : MS := sFor (iSeq (mVar 3)) (gN 5) (sSeq (sAsg (mCall 3 f_step_on [] (mCons (mVar 0) (mCons (mVar 2) (mCons (mVar 5) mNil)))) (gT 2 (gConss (gN 2) (gConss (gN 6) gNils)))) (sSeq (sExpr (mApp (mBin fIx (mVar 4) (mVar 5)) (mVar 6))) sNext))
def lc_digit_logs_1 (f_check_story : MF) (f_need_place : MF) (f_step_on : MF) : ME := mLc (iSeq (mVar 4)) (gN 8) mYes (mCB cTuple (mCons (mVar 8) mNil)) [8]
def m_digit_logs (f_check_story : MF) (f_need_place : MF) (f_step_on : MF) : MS := (sSeq (sAsg (mCall 2 f_check_story [] (mCons (mFld cs_hands "hands" (mVar 0)) (mCons (mVar 1) mNil))) (gN 3)) (sSeq (sExpr (mCall 2 f_need_place [] (mCons (mVar 0) (mCons (mVar 2) mNil)))) (sSeq (sAsg (lc_digit_logs_0 f_check_story f_need_place f_step_on) (gN 4)) (sSeq (lp_digit_logs_0 f_check_story f_need_place f_step_on) (sSeq (sRet (mTup (mCons (mVar 2) (mCons (mCB cTuple (mCons (lc_digit_logs_1 f_check_story f_need_place f_step_on) mNil)) mNil)))) sNext)))))
theorem ok_digit_logs {f : Addr} {fd : FuncData} {mf : MF} {f_check_story : MF} {f_need_place : MF} {f_step_on : MF} {dvs : List V} {kws : List (Str × V)} (F : FunD K "digit_logs" "digit_logs" (defArgs s_digit_logs) (defBody s_digit_logs) (defScope s_digit_logs) dvs kws f fd) (X_ : Txt T K mg) (G_check_story_2 : FnM T P w K mg base k "check_story" 2 [] f_check_story) (G_need_place_2 : FnM T P w K mg base k "need_place" 2 [] f_need_place) (G_step_on_3 : FnM T P w K mg base k "step_on" 3 [] f_step_on) (me : Meets' 3 9 (m_digit_logs f_check_story f_need_place f_step_on) mf) :
    FnG P w K mg base (L2.CX P w) (k + 1) f fd ["digits", "story", "place"] (spM T K 3 mf) := by
  refine ok_defD (N := N_digit_logs) (m := m_digit_logs f_check_story f_need_place f_step_on) F sc_digit_logs rfl (fun cdv A outer s H E bx => ?_) me
  exact (sss_cons (ss_asg (se_call G_check_story_2 bx.tk bx.hr (sa_cons (se_fld (X_.f_hands) (se_var 0)) (sa_cons (se_var 1) sa_nil))) (sg_name 3 sc_digit_logs.nd)) (sss_cons (ss_expr (se_call G_need_place_2 bx.tk bx.hr (sa_cons (se_var 0) (sa_cons (se_var 2) sa_nil)))) (sss_cons (ss_setLc (own := [("_", 7)]) rfl sc_digit_logs.nd (by show BlkOk N_digit_logs (defScope s_digit_logs) _ [("_", 7)]; exact ⟨rfl, by decide +kernel, by decide +kernel, by decide +kernel, by decide +kernel⟩) (si_seq (se_fld (X_.f_marks) (se_fld (X_.f_hands) (se_var 0)))) (fun _ _ _ _ _ => (sgw_name 7 sc_digit_logs.nd)) (fun _ _ _ _ _ => (se_lstC sa_nil))) (sss_cons (ss_for bx.po rfl (si_seq (se_var 3)) (sg_name 5 sc_digit_logs.nd) (sss_cons (ss_asg (se_call G_step_on_3 bx.tk bx.hr (sa_cons (se_var 0) (sa_cons (se_var 2) (sa_cons (se_var 5) sa_nil)))) (sg_tup rfl (sgs_cons (sg_name 2 sc_digit_logs.nd) (sgs_cons (sg_name 6 sc_digit_logs.nd) sgs_nil)))) (sss_cons (ss_expr (se_app (se_ix (se_var 4) (se_var 5)) (se_var 6))) sss_nil))) (sss_cons (ss_ret (se_tup (sa_cons (se_var 2) (sa_cons (se_tuple X_.b_tuple (sa_cons (se_lc (own := [("log", 8)]) rfl sc_digit_logs.nd (by show BlkOk N_digit_logs (defScope s_digit_logs) _ [("log", 8)]; exact ⟨rfl, by decide +kernel, by decide +kernel, by decide +kernel, by decide +kernel⟩) (si_seq (se_var 4)) (fun _ _ _ _ _ => (sgw_name 8 sc_digit_logs.nd)) (fun _ _ _ _ _ => (se_tuple X_.b_tuple (sa_cons (se_var 8) sa_nil)))) sa_nil)) sa_nil)))) sss_nil)))))
abbrev s_struck_digits : Stmt := top 40
abbrev N_struck_digits : List Str := ["digits", "place", "logs", "counts", "found", "hand", "ahead", "log"]
theorem sc_struck_digits : FnScope N_struck_digits ["digits", "place", "logs"] (defScope s_struck_digits) := ⟨rfl, rfl, rfl, by decide +kernel, rfl, by decide +kernel, by decide +kernel⟩
def lc_struck_digits_0 (f_stretch_with : MF) (f_place_ahead : MF) : ME := mLcC (iSeq (mVar 2)) (gN 7) mYes (mCB cLen (mCons (mVar 7) mNil)) [7]
def wh_struck_digits_0 (f_stretch_with : MF) (f_place_ahead : MF) : MS := sWhile nb_struck (mCB cAny (mCons (mVar 3) mNil)) (sSeq (sAsg (mCall 2 f_stretch_with [] (mCons (mFld cs_stretches "stretches" (mVar 0)) (mCons (mVar 1) mNil))) (gN 5)) (sSeq (sIf (mOr (mBin fIs (mVar 5) (mC .non)) (mBin fEqD (mBin fIx (mVar 3) (mVar 5)) (mC (.int 0)))) (sSeq sBk sNext) sNext) (sSeq (sAsg (mCall 4 f_place_ahead [] (mCons (mVar 0) (mCons (mVar 1) (mCons (mVar 5) (mCons (mBin fIx (mBin fIx (mVar 2) (mVar 5)) (mBin fSub (mBin fIx (mVar 3) (mVar 5)) (mC (.int 1)))) mNil))))) (gN 6)) (sSeq (sIf (mBin fIs (mVar 6) (mC .non)) (sSeq sBk sNext) sNext) (sSeq (sAugAt (fInt fun i j => some (.int (i - j))) (mVar 3) (mVar 5) (mC (.int 1))) (sSeq (sAsg (mVar 6) (gN 1)) (sSeq (sExpr (mApp (mVar 4) (mVar 5))) sNext)))))))
def m_struck_digits (f_stretch_with : MF) (f_place_ahead : MF) : MS := (sSeq (sAsg (lc_struck_digits_0 f_stretch_with f_place_ahead) (gN 3)) (sSeq (sAsg (mLstC mNil) (gN 4)) (sSeq (wh_struck_digits_0 f_stretch_with f_place_ahead) (sSeq (sRet (mTup (mCons (mTRev (mVar 4)) (mCons (mVar 1) mNil)))) sNext))))
theorem ok_struck_digits {f : Addr} {fd : FuncData} {mf : MF} {f_stretch_with : MF} {f_place_ahead : MF} (F : Fun K "struck_digits" "struck_digits" s_struck_digits f fd) (X_ : Txt T K mg) (G_stretch_with_2 : FnM T P w K mg base k "stretch_with" 2 [] f_stretch_with) (G_place_ahead_4 : FnM T P w K mg base k "place_ahead" 4 [] f_place_ahead) (me : Meets' 3 8 (m_struck_digits f_stretch_with f_place_ahead) mf) :
    FnG P w K mg base (L2.CX P w) (k + 1) f fd ["digits", "place", "logs"] (spM T K 3 mf) := by
  refine ok_def (N := N_struck_digits) (m := m_struck_digits f_stretch_with f_place_ahead) F sc_struck_digits rfl (fun cdv A outer s H E bx => ?_) me
  exact (sss_cons (ss_setLcC (own := [("log", 7)]) rfl sc_struck_digits.nd (by show BlkOk N_struck_digits (defScope s_struck_digits) _ [("log", 7)]; exact ⟨rfl, by decide +kernel, by decide +kernel, by decide +kernel, by decide +kernel⟩) (si_seq (se_var 2)) (fun _ _ _ _ _ => (sgw_name 7 sc_struck_digits.nd)) (fun _ _ _ _ _ => (se_len X_.b_len (sa_cons (se_var 7) sa_nil)))) (sss_cons (ss_asg (se_lstC sa_nil) (sg_name 4 sc_struck_digits.nd)) (sss_cons (ss_while nb_struck bx.po (st_val (se_any X_.b_any (sa_cons (se_var 3) sa_nil))) (sss_cons (ss_asg (se_call G_stretch_with_2 bx.tk bx.hr (sa_cons (se_fld (X_.f_stretches) (se_var 0)) (sa_cons (se_var 1) sa_nil))) (sg_name 5 sc_struck_digits.nd)) (sss_cons (ss_if (SW.pt (sw_or (st_is (se_var 5) se_non) (sw_or1 (st_eq bx.hu (se_ix (se_var 3) (se_var 5)) se_int)))) (sss_cons ss_break sss_nil) sss_nil) (sss_cons (ss_asg (se_call G_place_ahead_4 bx.tk bx.hr (sa_cons (se_var 0) (sa_cons (se_var 1) (sa_cons (se_var 5) (sa_cons (se_ix (se_ix (se_var 2) (se_var 5)) (se_sub (se_ix (se_var 3) (se_var 5)) se_int)) sa_nil))))) (sg_name 6 sc_struck_digits.nd)) (sss_cons (ss_if (st_is (se_var 6) se_non) (sss_cons ss_break sss_nil) sss_nil) (sss_cons (ss_augAtSub (se_var 3) (se_var 5) se_int) (sss_cons (ss_asg (se_var 6) (sg_name 1 sc_struck_digits.nd)) (sss_cons (ss_expr (se_app (se_var 4) (se_var 5))) sss_nil)))))))) (sss_cons (ss_ret (se_tup (sa_cons (se_tupRev X_.b_tuple X_.b_reversed (se_var 4)) (sa_cons (se_var 1) sa_nil)))) sss_nil))))
abbrev s_digit_story : Stmt := top 41
abbrev N_digit_story : List Str := ["digits", "place", "logs"]
theorem sc_digit_story : FnScope N_digit_story ["digits", "place", "logs"] (defScope s_digit_story) := ⟨rfl, rfl, rfl, by decide +kernel, rfl, by decide +kernel, by decide +kernel⟩
def m_digit_story (f_need_place : MF) (f_struck_digits : MF) (f_check_logs : MF) : MS := (sSeq (sExpr (mCall 2 f_need_place [] (mCons (mVar 0) (mCons (mVar 1) mNil)))) (sSeq (sRet (mCall 3 f_struck_digits [] (mCons (mVar 0) (mCons (mVar 1) (mCons (mCall 2 f_check_logs [] (mCons (mFld cs_hands "hands" (mVar 0)) (mCons (mVar 2) mNil))) mNil))))) sNext))
theorem ok_digit_story {f : Addr} {fd : FuncData} {mf : MF} {f_need_place : MF} {f_struck_digits : MF} {f_check_logs : MF} (F : Fun K "digit_story" "digit_story" s_digit_story f fd) (X_ : Txt T K mg) (G_need_place_2 : FnM T P w K mg base k "need_place" 2 [] f_need_place) (G_struck_digits_3 : FnM T P w K mg base k "struck_digits" 3 [] f_struck_digits) (G_check_logs_2 : FnM T P w K mg base k "check_logs" 2 [] f_check_logs) (me : Meets' 3 3 (m_digit_story f_need_place f_struck_digits f_check_logs) mf) :
    FnG P w K mg base (L2.CX P w) (k + 1) f fd ["digits", "place", "logs"] (spM T K 3 mf) := by
  refine ok_def (N := N_digit_story) (m := m_digit_story f_need_place f_struck_digits f_check_logs) F sc_digit_story rfl (fun cdv A outer s H E bx => ?_) me
  exact (sss_cons (ss_expr (se_call G_need_place_2 bx.tk bx.hr (sa_cons (se_var 0) (sa_cons (se_var 1) sa_nil)))) (sss_cons (ss_ret (se_call G_struck_digits_3 bx.tk bx.hr (sa_cons (se_var 0) (sa_cons (se_var 1) (sa_cons (se_call G_check_logs_2 bx.tk bx.hr (sa_cons (se_fld (X_.f_hands) (se_var 0)) (sa_cons (se_var 2) sa_nil))) sa_nil))))) sss_nil))
abbrev s__law_box : Stmt := top 43
abbrev N__law_box : List Str := ["_law_script", "_law_k", "_law_cell", "_law_great"]
theorem sc__law_box : FnScope N__law_box ["_law_script", "_law_k"] (defScope s__law_box) := ⟨rfl, rfl, rfl, by decide +kernel, rfl, by decide +kernel, by decide +kernel⟩
def m__law_box : MS := (sSeq (sAsg (mBin fAdd (mBin fMul (mC (.int 6737)) (mVar 1)) (mC (.int 823))) (gN 2)) (sSeq (sIf (mBin fLt (mVar 1) (mCB cLen (mCons (mVar 0) mNil))) (sSeq (sAsg (mCB cAbs (mCons (mCB cInt (mCons (mBin fIx (mVar 0) (mVar 1)) mNil)) mNil)) (gN 2)) sNext) (sSeq (sIf (mBin fGt (mCB cLen (mCons (mVar 0) mNil)) (mC (.int 0))) (sSeq (sAsg (mBin fAdd (mVar 2) (mBin fMul (mBin fMod (mCB cInt (mCons (mCB cAbs (mCons (mCB cInt (mCons (mBin fIx (mVar 0) (mBin fMod (mCB cInt (mCons (mVar 1) mNil)) (mCB cLen (mCons (mVar 0) mNil)))) mNil)) mNil)) mNil)) (mC (.int 2147483587))) (mC (.int 52433)))) (gN 2)) sNext) sNext) sNext)) (sSeq (sAsg (mIf (mBin fGe (mVar 2) (mBin fPow (mC (.int 10)) (mC (.int 18)))) (mVar 2) (mC (.int 0))) (gN 3)) (sSeq (sRet (mLstC (mCons (mVar 3) (mCons (mBin fAdd (mBin fMod (mCB cInt (mCons (mBin fAdd (mBin fMul (mBin fMod (mCB cInt (mCons (mVar 2) mNil)) (mC (.int 2147483587))) (mC (.int 69069))) (mBin fMul (mC (.int 823)) (mVar 1))) mNil)) (mC (.int 2147483587))) (mC (.int 1))) mNil)))) sNext))))
theorem ok__law_box {f : Addr} {fd : FuncData} {mf : MF} (F : Fun K "_law_box" "_law_box" s__law_box f fd) (X_ : Txt T K mg)  (me : Meets' 2 4 (m__law_box) mf) :
    FnG P w K mg base (L2.CX P w) (k + 1) f fd ["_law_script", "_law_k"] (spM T K 2 mf) := by
  refine ok_def (N := N__law_box) (m := m__law_box) F sc__law_box rfl (fun cdv A outer s H E bx => ?_) me
  exact (sss_cons (ss_asg (se_add (se_mul se_int (se_var 1)) se_int) (sg_name 2 sc__law_box.nd)) (sss_cons (ss_if (st_lt (se_var 1) (se_len X_.b_len (sa_cons (se_var 0) sa_nil))) (sss_cons (ss_asg (se_abs X_.b_abs (sa_cons (se_intc X_.b_int (sa_cons (se_ix (se_var 0) (se_var 1)) sa_nil)) sa_nil)) (sg_name 2 sc__law_box.nd)) sss_nil) (sss_cons (ss_if (st_gt (se_len X_.b_len (sa_cons (se_var 0) sa_nil)) se_int) (sss_cons (ss_asg (se_add (se_var 2) (se_mul (se_mod (se_intc X_.b_int (sa_cons (se_abs X_.b_abs (sa_cons (se_intc X_.b_int (sa_cons (se_ix (se_var 0) (se_mod (se_intc X_.b_int (sa_cons (se_var 1) sa_nil)) (se_len X_.b_len (sa_cons (se_var 0) sa_nil)))) sa_nil)) sa_nil)) sa_nil)) se_int) se_int)) (sg_name 2 sc__law_box.nd)) sss_nil) sss_nil) sss_nil)) (sss_cons (ss_asg (se_if (st_ge (se_var 2) (se_pow se_int se_int)) (se_var 2) se_int) (sg_name 3 sc__law_box.nd)) (sss_cons (ss_ret (se_lstC (sa_cons (se_var 3) (sa_cons (se_add (se_mod (se_intc X_.b_int (sa_cons (se_add (se_mul (se_mod (se_intc X_.b_int (sa_cons (se_var 2) sa_nil)) se_int) se_int) (se_mul se_int (se_var 1))) sa_nil)) se_int) se_int) sa_nil)))) sss_nil))))
abbrev s__law_take : Stmt := top 44
abbrev N__law_take : List Str := ["_law_box_here", "_law_many", "_law_raw", "_law_digit"]
theorem sc__law_take : FnScope N__law_take ["_law_box_here", "_law_many"] (defScope s__law_take) := ⟨rfl, rfl, rfl, by decide +kernel, rfl, by decide +kernel, by decide +kernel⟩
def m__law_take : MS := (sSeq (sIf (mBin fGt (mBin fIx (mVar 0) (mC (.int 0))) (mC (.int 0))) (sSeq (sAsg (mBin fMod (mCB cInt (mCons (mBin fIx (mVar 0) (mC (.int 0))) mNil)) (mVar 1)) (gN 3)) (sSeq (sPut (mBin fDiv (mBin fIx (mVar 0) (mC (.int 0))) (mVar 1)) (mVar 0) (mC (.int 0))) (sSeq (sRet (mVar 3)) sNext))) sNext) (sSeq (sAsg (mBin fMod (mCB cInt (mCons (mBin fAdd (mBin fMul (mBin fIx (mVar 0) (mC (.int 1))) (mC (.int 40692))) (mC (.int 97))) mNil)) (mC (.int 2147483399))) (gN 2)) (sSeq (sPut (mBin fAdd (mBin fMod (mCB cInt (mCons (mBin fAdd (mBin fMul (mVar 2) (mC (.int 40014))) (mC (.int 11))) mNil)) (mC (.int 2147483587))) (mC (.int 1))) (mVar 0) (mC (.int 1))) (sSeq (sRet (mBin fMod (mCB cInt (mCons (mBin fDiv (mBin fAdd (mBin fMul (mVar 2) (mC (.int 2147483629))) (mBin fIx (mVar 0) (mC (.int 1)))) (mC (.int 8209))) mNil)) (mVar 1))) sNext))))
theorem ok__law_take {f : Addr} {fd : FuncData} {mf : MF} (F : Fun K "_law_take" "_law_take" s__law_take f fd) (X_ : Txt T K mg)  (me : Meets' 2 4 (m__law_take) mf) :
    FnG P w K mg base (L2.CX P w) (k + 1) f fd ["_law_box_here", "_law_many"] (spM T K 2 mf) := by
  refine ok_def (N := N__law_take) (m := m__law_take) F sc__law_take rfl (fun cdv A outer s H E bx => ?_) me
  exact (sss_cons (ss_if (st_gt (se_ix (se_var 0) se_int) se_int) (sss_cons (ss_asg (se_mod (se_intc X_.b_int (sa_cons (se_ix (se_var 0) se_int) sa_nil)) (se_var 1)) (sg_name 3 sc__law_take.nd)) (sss_cons (ss_put (se_var 0) se_int (se_div (se_ix (se_var 0) se_int) (se_var 1))) (sss_cons (ss_ret (se_var 3)) sss_nil))) sss_nil) (sss_cons (ss_asg (se_mod (se_intc X_.b_int (sa_cons (se_add (se_mul (se_ix (se_var 0) se_int) se_int) se_int) sa_nil)) se_int) (sg_name 2 sc__law_take.nd)) (sss_cons (ss_put (se_var 0) se_int (se_add (se_mod (se_intc X_.b_int (sa_cons (se_add (se_mul (se_var 2) se_int) se_int) sa_nil)) se_int) se_int)) (sss_cons (ss_ret (se_mod (se_intc X_.b_int (sa_cons (se_div (se_add (se_mul (se_var 2) se_int) (se_ix (se_var 0) se_int)) se_int) sa_nil)) (se_var 1))) sss_nil))))
abbrev s__law_pick : Stmt := top 45
abbrev N__law_pick : List Str := ["_law_box_here", "_law_some"]
theorem sc__law_pick : FnScope N__law_pick ["_law_box_here", "_law_some"] (defScope s__law_pick) := ⟨rfl, rfl, rfl, by decide +kernel, rfl, by decide +kernel, by decide +kernel⟩
def m__law_pick (f__law_take : MF) : MS := (sSeq (sRet (mBin fIx (mVar 1) (mCall 2 f__law_take [] (mCons (mVar 0) (mCons (mCB cLen (mCons (mVar 1) mNil)) mNil))))) sNext)
theorem ok__law_pick {f : Addr} {fd : FuncData} {mf : MF} {f__law_take : MF} (F : Fun K "_law_pick" "_law_pick" s__law_pick f fd) (X_ : Txt T K mg) (G__law_take_2 : FnM T P w K mg base k "_law_take" 2 [] f__law_take) (me : Meets' 2 2 (m__law_pick f__law_take) mf) :
    FnG P w K mg base (L2.CX P w) (k + 1) f fd ["_law_box_here", "_law_some"] (spM T K 2 mf) := by
  refine ok_def (N := N__law_pick) (m := m__law_pick f__law_take) F sc__law_pick rfl (fun cdv A outer s H E bx => ?_) me
  exact (sss_cons (ss_ret (se_ix (se_var 1) (se_call G__law_take_2 bx.tk bx.hr (sa_cons (se_var 0) (sa_cons (se_len X_.b_len (sa_cons (se_var 1) sa_nil)) sa_nil))))) sss_nil)
abbrev s__law_share : Stmt := top 46
abbrev N__law_share : List Str := ["_law_marks_here", "_law_bottom", "_law_many"]
theorem sc__law_share : FnScope N__law_share ["_law_marks_here"] (defScope s__law_share) := ⟨rfl, rfl, rfl, by decide +kernel, rfl, by decide +kernel, by decide +kernel⟩
def lp__law_share_0 : MS := sFor (iSeq (mVar 0)) (gN 2) (sSeq (sAsg (mBin fMul (mVar 1) (mVar 2)) (gN 1)) sNext)
def lc__law_share_0 : ME := mLc (iSeq (mVar 0)) (gN 2) mYes (mBin fDiv (mVar 1) (mVar 2)) [2]
def m__law_share : MS := (sSeq (sAsg (mC (.int 1)) (gN 1)) (sSeq (lp__law_share_0) (sSeq (sRet (mTup (mCons (mCB cSum (mCons (lc__law_share_0) mNil)) (mCons (mVar 1) mNil)))) sNext)))
theorem ok__law_share {f : Addr} {fd : FuncData} {mf : MF} (F : Fun K "_law_share" "_law_share" s__law_share f fd) (X_ : Txt T K mg)  (me : Meets' 1 3 (m__law_share) mf) :
    FnG P w K mg base (L2.CX P w) (k + 1) f fd ["_law_marks_here"] (spM T K 1 mf) := by
  refine ok_def (N := N__law_share) (m := m__law_share) F sc__law_share rfl (fun cdv A outer s H E bx => ?_) me
  exact (sss_cons (ss_asg se_int (sg_name 1 sc__law_share.nd)) (sss_cons (ss_for bx.po rfl (si_seq (se_var 0)) (sg_name 2 sc__law_share.nd) (sss_cons (ss_asg (se_mul (se_var 1) (se_var 2)) (sg_name 1 sc__law_share.nd)) sss_nil)) (sss_cons (ss_ret (se_tup (sa_cons (se_sum X_.b_sum (sa_cons (se_lc (own := [("_law_many", 2)]) rfl sc__law_share.nd (by show BlkOk N__law_share (defScope s__law_share) _ [("_law_many", 2)]; exact ⟨rfl, by decide +kernel, by decide +kernel, by decide +kernel, by decide +kernel⟩) (si_seq (se_var 0)) (fun _ _ _ _ _ => (sgw_name 2 sc__law_share.nd)) (fun _ _ _ _ _ => (se_div (se_var 1) (se_var 2)))) sa_nil)) (sa_cons (se_var 1) sa_nil)))) sss_nil)))
abbrev s__law_tells : Stmt := top 47
abbrev N__law_tells : List Str := ["_law_marks_here", "_law_top", "_law_bottom"]
theorem sc__law_tells : FnScope N__law_tells ["_law_marks_here"] (defScope s__law_tells) := ⟨rfl, rfl, rfl, by decide +kernel, rfl, by decide +kernel, by decide +kernel⟩
def m__law_tells (f__law_share : MF) : MS := (sSeq (sAsg (mCall 1 f__law_share [] (mCons (mVar 0) mNil)) (gT 2 (gConss (gN 1) (gConss (gN 2) gNils)))) (sSeq (sRet (mBin fLe (mVar 1) (mVar 2))) sNext))
theorem ok__law_tells {f : Addr} {fd : FuncData} {mf : MF} {f__law_share : MF} (F : Fun K "_law_tells" "_law_tells" s__law_tells f fd) (X_ : Txt T K mg) (G__law_share_1 : FnM T P w K mg base k "_law_share" 1 [] f__law_share) (me : Meets' 1 3 (m__law_tells f__law_share) mf) :
    FnG P w K mg base (L2.CX P w) (k + 1) f fd ["_law_marks_here"] (spM T K 1 mf) := by
  refine ok_def (N := N__law_tells) (m := m__law_tells f__law_share) F sc__law_tells rfl (fun cdv A outer s H E bx => ?_) me
  exact (sss_cons (ss_asg (se_call G__law_share_1 bx.tk bx.hr (sa_cons (se_var 0) sa_nil)) (sg_tup rfl (sgs_cons (sg_name 1 sc__law_tells.nd) (sgs_cons (sg_name 2 sc__law_tells.nd) sgs_nil)))) (sss_cons (ss_ret (se_le (se_var 1) (se_var 2))) sss_nil))
abbrev s__law_marks : Stmt := top 48
abbrev N__law_marks : List Str := ["_law_box_here", "_law_turn", "_law_marks_here", "_law_hand"]
theorem sc__law_marks : FnScope N__law_marks ["_law_box_here"] (defScope s__law_marks) := ⟨rfl, rfl, rfl, by decide +kernel, rfl, by decide +kernel, by decide +kernel⟩
def cl__law_marks_0 (f__law_take : MF) (f__law_pick : MF) (f__law_tells : MF) : ME := mLst (mCons (mTup (mCons (mC (.int 2)) (mCons (mC (.int 2)) mNil))) (mCons (mTup (mCons (mC (.int 2)) (mCons (mC (.int 3)) (mCons (mC (.int 6)) mNil)))) (mCons (mTup (mCons (mC (.int 3)) (mCons (mC (.int 3)) (mCons (mC (.int 3)) mNil)))) (mCons (mTup (mCons (mC (.int 2)) (mCons (mC (.int 4)) (mCons (mC (.int 4)) mNil)))) (mCons (mTup (mCons (mC (.int 2)) (mCons (mC (.int 3)) mNil))) (mCons (mTup (mCons (mC (.int 6)) (mCons (mC (.int 2)) (mCons (mC (.int 3)) mNil)))) (mCons (mTup (mCons (mC (.int 4)) (mCons (mC (.int 2)) (mCons (mC (.int 5)) mNil)))) (mCons (mTup (mCons (mC (.int 2)) (mCons (mC (.int 5)) (mCons (mC (.int 4)) mNil)))) (mCons (mTup (mCons (mC (.int 4)) (mCons (mC (.int 4)) (mCons (mC (.int 2)) mNil)))) (mCons (mTup (mCons (mC (.int 5)) (mCons (mC (.int 3)) (mCons (mC (.int 3)) mNil)))) mNil))))))))))
def lc__law_marks_0 (f__law_take : MF) (f__law_pick : MF) (f__law_tells : MF) : ME := mLc (iRange1 (mCons (mBin fAdd (mC (.int 2)) (mCall 2 f__law_take [] (mCons (mVar 0) (mCons (mC (.int 3)) mNil)))) mNil)) (gN 3) mYes (mBin fAdd (mC (.int 2)) (mCall 2 f__law_take [] (mCons (mVar 0) (mCons (mC (.int 6)) mNil)))) [3]
def lp__law_marks_0 (f__law_take : MF) (f__law_pick : MF) (f__law_tells : MF) : MS := sFor (iRange1 (mCons (mC (.int 20)) mNil)) (gN 1) (sSeq (sAsg (mCB cTuple (mCons (lc__law_marks_0 f__law_take f__law_pick f__law_tells) mNil)) (gN 2)) (sSeq (sIf (mCall 1 f__law_tells [] (mCons (mVar 2) mNil)) (sSeq (sRet (mVar 2)) sNext) sNext) sNext))
def m__law_marks (f__law_take : MF) (f__law_pick : MF) (f__law_tells : MF) : MS := (sSeq (sIf (mBin fEqD (mCall 2 f__law_take [] (mCons (mVar 0) (mCons (mC (.int 3)) mNil))) (mC (.int 0))) (sSeq (sRet (mCall 2 f__law_pick [] (mCons (mVar 0) (mCons (cl__law_marks_0 f__law_take f__law_pick f__law_tells) mNil)))) sNext) sNext) (sSeq (lp__law_marks_0 f__law_take f__law_pick f__law_tells) (sSeq (sRet (mTup (mCons (mC (.int 2)) (mCons (mC (.int 2)) mNil)))) sNext)))
theorem ok__law_marks {f : Addr} {fd : FuncData} {mf : MF} {f__law_take : MF} {f__law_pick : MF} {f__law_tells : MF} (F : Fun K "_law_marks" "_law_marks" s__law_marks f fd) (X_ : Txt T K mg) (G__law_take_2 : FnM T P w K mg base k "_law_take" 2 [] f__law_take) (G__law_pick_2 : FnM T P w K mg base k "_law_pick" 2 [] f__law_pick) (G__law_tells_1 : FnM T P w K mg base k "_law_tells" 1 [] f__law_tells) (me : Meets' 1 4 (m__law_marks f__law_take f__law_pick f__law_tells) mf) :
    FnG P w K mg base (L2.CX P w) (k + 1) f fd ["_law_box_here"] (spM T K 1 mf) := by
  refine ok_def (N := N__law_marks) (m := m__law_marks f__law_take f__law_pick f__law_tells) F sc__law_marks rfl (fun cdv A outer s H E bx => ?_) me
  exact (sss_cons (ss_if (st_eq bx.hu (se_call G__law_take_2 bx.tk bx.hr (sa_cons (se_var 0) (sa_cons se_int sa_nil))) se_int) (sss_cons (ss_ret (se_call G__law_pick_2 bx.tk bx.hr (sa_cons (se_var 0) (sa_cons (se_lst (sa_cons (se_tup (sa_cons se_int (sa_cons se_int sa_nil))) (sa_cons (se_tup (sa_cons se_int (sa_cons se_int (sa_cons se_int sa_nil)))) (sa_cons (se_tup (sa_cons se_int (sa_cons se_int (sa_cons se_int sa_nil)))) (sa_cons (se_tup (sa_cons se_int (sa_cons se_int (sa_cons se_int sa_nil)))) (sa_cons (se_tup (sa_cons se_int (sa_cons se_int sa_nil))) (sa_cons (se_tup (sa_cons se_int (sa_cons se_int (sa_cons se_int sa_nil)))) (sa_cons (se_tup (sa_cons se_int (sa_cons se_int (sa_cons se_int sa_nil)))) (sa_cons (se_tup (sa_cons se_int (sa_cons se_int (sa_cons se_int sa_nil)))) (sa_cons (se_tup (sa_cons se_int (sa_cons se_int (sa_cons se_int sa_nil)))) (sa_cons (se_tup (sa_cons se_int (sa_cons se_int (sa_cons se_int sa_nil)))) sa_nil))))))))))) sa_nil)))) sss_nil) sss_nil) (sss_cons (ss_for bx.po rfl (si_range1 X_.b_range (sa_cons se_int sa_nil)) (sg_name 1 sc__law_marks.nd) (sss_cons (ss_asg (se_tuple X_.b_tuple (sa_cons (se_lc (own := [("_law_hand", 3)]) rfl sc__law_marks.nd (by show BlkOk N__law_marks (defScope s__law_marks) _ [("_law_hand", 3)]; exact ⟨rfl, by decide +kernel, by decide +kernel, by decide +kernel, by decide +kernel⟩) (si_range1 X_.b_range (sa_cons (se_add se_int (se_call G__law_take_2 bx.tk bx.hr (sa_cons (se_var 0) (sa_cons se_int sa_nil)))) sa_nil)) (fun _ _ _ _ _ => (sgw_name 3 sc__law_marks.nd)) (fun _ _ _ _ _ => (se_add se_int (se_call G__law_take_2 takesF bx.hr (sa_cons (se_var 0) (sa_cons se_int sa_nil)))))) sa_nil)) (sg_name 2 sc__law_marks.nd)) (sss_cons (ss_if (st_val (se_call G__law_tells_1 bx.tk bx.hr (sa_cons (se_var 2) sa_nil))) (sss_cons (ss_ret (se_var 2)) sss_nil) sss_nil) sss_nil))) (sss_cons (ss_ret (se_tup (sa_cons se_int (sa_cons se_int sa_nil)))) sss_nil)))
abbrev s__law_stretches : Stmt := top 50
abbrev N__law_stretches : List Str := ["_law_marks_here", "_law_number", "_law_many", "_law_found", "_law_first", "_law_size"]
theorem sc__law_stretches : FnScope N__law_stretches ["_law_marks_here", "_law_number"] (defScope s__law_stretches) := ⟨rfl, rfl, rfl, by decide +kernel, rfl, by decide +kernel, by decide +kernel⟩
def lp__law_stretches_0 : MS := sFor (iSeq (mVar 0)) (gN 2) (sSeq (sAsg (mBin fDiv (mBin fSub (mBin fAdd (mVar 1) (mVar 2)) (mC (.int 1))) (mVar 2)) (gN 5)) (sSeq (sExpr (mApp (mVar 3) (mTup (mCons (mVar 4) (mCons (mBin fAdd (mVar 4) (mVar 5)) mNil))))) (sSeq (sAsg (mBin fAdd (mVar 4) (mVar 5)) (gN 4)) sNext)))
def m__law_stretches : MS := (sSeq (sPar 3 4 (mCons (mLstC mNil) (mCons (mC (.int 0)) mNil))) (sSeq (lp__law_stretches_0) (sSeq (sRet (mCB cTuple (mCons (mVar 3) mNil))) sNext)))
theorem ok__law_stretches {f : Addr} {fd : FuncData} {mf : MF} (F : Fun K "_law_stretches" "_law_stretches" s__law_stretches f fd) (X_ : Txt T K mg)  (me : Meets' 2 6 (m__law_stretches) mf) :
    FnG P w K mg base (L2.CX P w) (k + 1) f fd ["_law_marks_here", "_law_number"] (spM T K 2 mf) := by
  refine ok_def (N := N__law_stretches) (m := m__law_stretches) F sc__law_stretches rfl (fun cdv A outer s H E bx => ?_) me
  exact (sss_cons (ss_par rfl sc__law_stretches.nd (sa_cons (se_lstC sa_nil) (sa_cons se_int sa_nil)) (i := 3) (j := 4)) (sss_cons (ss_for bx.po rfl (si_seq (se_var 0)) (sg_name 2 sc__law_stretches.nd) (sss_cons (ss_asg (se_div (se_sub (se_add (se_var 1) (se_var 2)) se_int) (se_var 2)) (sg_name 5 sc__law_stretches.nd)) (sss_cons (ss_expr (se_app (se_var 3) (se_tup (sa_cons (se_var 4) (sa_cons (se_add (se_var 4) (se_var 5)) sa_nil))))) (sss_cons (ss_asg (se_add (se_var 4) (se_var 5)) (sg_name 4 sc__law_stretches.nd)) sss_nil)))) (sss_cons (ss_ret (se_tuple X_.b_tuple (sa_cons (se_var 3) sa_nil))) sss_nil)))
abbrev s__law_goes : Stmt := top 51
abbrev N__law_goes : List Str := ["_law_marks_here", "_law_number"]
theorem sc__law_goes : FnScope N__law_goes ["_law_marks_here", "_law_number"] (defScope s__law_goes) := ⟨rfl, rfl, rfl, by decide +kernel, rfl, by decide +kernel, by decide +kernel⟩
def m__law_goes (f__law_stretches : MF) : MS := (sSeq (sRet (mBin fLe (mBin fIx (mBin fIx (mCall 2 f__law_stretches [] (mCons (mVar 0) (mCons (mVar 1) mNil))) (mUn fNeg (mC (.int 1)))) (mC (.int 1))) (mVar 1))) sNext)
theorem ok__law_goes {f : Addr} {fd : FuncData} {mf : MF} {f__law_stretches : MF} (F : Fun K "_law_goes" "_law_goes" s__law_goes f fd) (X_ : Txt T K mg) (G__law_stretches_2 : FnM T P w K mg base k "_law_stretches" 2 [] f__law_stretches) (me : Meets' 2 2 (m__law_goes f__law_stretches) mf) :
    FnG P w K mg base (L2.CX P w) (k + 1) f fd ["_law_marks_here", "_law_number"] (spM T K 2 mf) := by
  refine ok_def (N := N__law_goes) (m := m__law_goes f__law_stretches) F sc__law_goes rfl (fun cdv A outer s H E bx => ?_) me
  exact (sss_cons (ss_ret (se_le (se_ix (se_ix (se_call G__law_stretches_2 bx.tk bx.hr (sa_cons (se_var 0) (sa_cons (se_var 1) sa_nil))) (se_neg se_int)) se_int) (se_var 1))) sss_nil)
abbrev s__law_least : Stmt := top 52
abbrev N__law_least : List Str := ["_law_marks_here", "_law_number"]
theorem sc__law_least : FnScope N__law_least ["_law_marks_here"] (defScope s__law_least) := ⟨rfl, rfl, rfl, by decide +kernel, rfl, by decide +kernel, by decide +kernel⟩
def lp__law_least_0 (f__law_goes : MF) : MS := sFor (iRange2 (mCons (mC (.int 1)) (mCons (mC (.int 3000)) mNil))) (gN 1) (sSeq (sIf (mCall 2 f__law_goes [] (mCons (mVar 0) (mCons (mVar 1) mNil))) (sSeq (sRet (mVar 1)) sNext) sNext) sNext)
def m__law_least (f__law_goes : MF) : MS := (sSeq (lp__law_least_0 f__law_goes) (sSeq (sRet (mC .non)) sNext))
theorem ok__law_least {f : Addr} {fd : FuncData} {mf : MF} {f__law_goes : MF} (F : Fun K "_law_least" "_law_least" s__law_least f fd) (X_ : Txt T K mg) (G__law_goes_2 : FnM T P w K mg base k "_law_goes" 2 [] f__law_goes) (me : Meets' 1 2 (m__law_least f__law_goes) mf) :
    FnG P w K mg base (L2.CX P w) (k + 1) f fd ["_law_marks_here"] (spM T K 1 mf) := by
  refine ok_def (N := N__law_least) (m := m__law_least f__law_goes) F sc__law_least rfl (fun cdv A outer s H E bx => ?_) me
  exact (sss_cons (ss_for bx.po rfl (si_range2 X_.b_range (sa_cons se_int (sa_cons se_int sa_nil))) (sg_name 1 sc__law_least.nd) (sss_cons (ss_if (st_val (se_call G__law_goes_2 bx.tk bx.hr (sa_cons (se_var 0) (sa_cons (se_var 1) sa_nil)))) (sss_cons (ss_ret (se_var 1)) sss_nil) sss_nil) sss_nil)) (sss_cons (ss_ret se_non) sss_nil))
abbrev s__law_moves : Stmt := top 53
abbrev N__law_moves : List Str := ["_law_marks_here", "_law_number", "_law_found", "_law_place", "_law_row", "_law_hand", "_law_at", "_law_first", "_law_behind"]
theorem sc__law_moves : FnScope N__law_moves ["_law_marks_here", "_law_number"] (defScope s__law_moves) := ⟨rfl, rfl, rfl, by decide +kernel, rfl, by decide +kernel, by decide +kernel⟩
def lc__law_moves_0 (f__law_stretches : MF) : ME := mLc (iRange1 (mCons (mBin fSub (mVar 8) (mVar 7)) mNil)) (gN 6) (mBin fLe (mBin fMul (mVar 6) (mBin fIx (mVar 0) (mVar 5))) (mVar 3)) (mVar 6) [6]
def lp__law_moves_0 (f__law_stretches : MF) : MS := sFor (iEnum' (mCons (mCall 2 f__law_stretches [] (mCons (mVar 0) (mCons (mVar 1) mNil))) mNil)) (gT 2 (gConss (gN 5) (gConss (gT 2 (gConss (gN 7) (gConss (gN 8) gNils))) gNils))) (sSeq (sAsg (mBin fIx (lc__law_moves_0 f__law_stretches) (mUn fNeg (mC (.int 1)))) (gN 6)) (sSeq (sExpr (mApp (mVar 4) (mTup (mCons (mBin fAdd (mVar 7) (mVar 6)) (mCons (mBin fSub (mVar 3) (mBin fMul (mVar 6) (mBin fIx (mVar 0) (mVar 5)))) mNil))))) sNext))
def lp__law_moves_1 (f__law_stretches : MF) : MS := sFor (iRange1 (mCons (mVar 1) mNil)) (gN 3) (sSeq (sAsg (mLstC mNil) (gN 4)) (sSeq (lp__law_moves_0 f__law_stretches) (sSeq (sExpr (mApp (mVar 2) (mVar 4))) sNext)))
def m__law_moves (f__law_stretches : MF) : MS := (sSeq (sAsg (mLstC mNil) (gN 2)) (sSeq (lp__law_moves_1 f__law_stretches) (sSeq (sRet (mVar 2)) sNext)))
theorem ok__law_moves {f : Addr} {fd : FuncData} {mf : MF} {f__law_stretches : MF} (F : Fun K "_law_moves" "_law_moves" s__law_moves f fd) (X_ : Txt T K mg) (G__law_stretches_2 : FnM T P w K mg base k "_law_stretches" 2 [] f__law_stretches) (me : Meets' 2 9 (m__law_moves f__law_stretches) mf) :
    FnG P w K mg base (L2.CX P w) (k + 1) f fd ["_law_marks_here", "_law_number"] (spM T K 2 mf) := by
  refine ok_def (N := N__law_moves) (m := m__law_moves f__law_stretches) F sc__law_moves rfl (fun cdv A outer s H E bx => ?_) me
  exact (sss_cons (ss_asg (se_lstC sa_nil) (sg_name 2 sc__law_moves.nd)) (sss_cons (ss_for bx.po rfl (si_range1 X_.b_range (sa_cons (se_var 1) sa_nil)) (sg_name 3 sc__law_moves.nd) (sss_cons (ss_asg (se_lstC sa_nil) (sg_name 4 sc__law_moves.nd)) (sss_cons (ss_for bx.po rfl (si_enum X_.b_enumerate (sa_cons (se_call G__law_stretches_2 bx.tk bx.hr (sa_cons (se_var 0) (sa_cons (se_var 1) sa_nil))) sa_nil)) (sg_tup rfl (sgs_cons (sg_name 5 sc__law_moves.nd) (sgs_cons (sg_tup rfl (sgs_cons (sg_name 7 sc__law_moves.nd) (sgs_cons (sg_name 8 sc__law_moves.nd) sgs_nil))) sgs_nil))) (sss_cons (ss_asg (se_ix (se_lcIf (own := [("_law_at", 6)]) rfl sc__law_moves.nd (by show BlkOk N__law_moves (defScope s__law_moves) _ [("_law_at", 6)]; exact ⟨rfl, by decide +kernel, by decide +kernel, by decide +kernel, by decide +kernel⟩) (si_range1 X_.b_range (sa_cons (se_sub (se_var 8) (se_var 7)) sa_nil)) (fun _ _ _ _ _ => (sgw_name 6 sc__law_moves.nd)) (fun _ _ _ _ _ => (st_le (se_mul (se_var 6) (se_ix (se_var 0) (se_var 5))) (se_var 3))) (fun _ _ _ _ _ => (se_var 6))) (se_neg se_int)) (sg_name 6 sc__law_moves.nd)) (sss_cons (ss_expr (se_app (se_var 4) (se_tup (sa_cons (se_add (se_var 7) (se_var 6)) (sa_cons (se_sub (se_var 3) (se_mul (se_var 6) (se_ix (se_var 0) (se_var 5)))) sa_nil))))) sss_nil))) (sss_cons (ss_expr (se_app (se_var 2) (se_var 4))) sss_nil)))) (sss_cons (ss_ret (se_var 2)) sss_nil)))
abbrev s__law_run : Stmt := top 54
abbrev N__law_run : List Str := ["_law_moves_here", "_law_story_here", "_law_place", "_law_marks_here", "_law_hand", "_law_mark"]
theorem sc__law_run : FnScope N__law_run ["_law_moves_here", "_law_story_here", "_law_place"] (defScope s__law_run) := ⟨rfl, rfl, rfl, by decide +kernel, rfl, by decide +kernel, by decide +kernel⟩
def lp__law_run_0 : MS := sFor (iSeq (mVar 1)) (gN 4) (sSeq (sAsg (mBin fIx (mBin fIx (mVar 0) (mVar 2)) (mVar 4)) (gT 2 (gConss (gN 2) (gConss (gN 5) gNils)))) (sSeq (sExpr (mApp (mVar 3) (mVar 5))) sNext))
def m__law_run : MS := (sSeq (sAsg (mLstC mNil) (gN 3)) (sSeq (lp__law_run_0) (sSeq (sRet (mTup (mCons (mVar 2) (mCons (mVar 3) mNil)))) sNext)))
theorem ok__law_run {f : Addr} {fd : FuncData} {mf : MF} (F : Fun K "_law_run" "_law_run" s__law_run f fd) (X_ : Txt T K mg)  (me : Meets' 3 6 (m__law_run) mf) :
    FnG P w K mg base (L2.CX P w) (k + 1) f fd ["_law_moves_here", "_law_story_here", "_law_place"] (spM T K 3 mf) := by
  refine ok_def (N := N__law_run) (m := m__law_run) F sc__law_run rfl (fun cdv A outer s H E bx => ?_) me
  exact (sss_cons (ss_asg (se_lstC sa_nil) (sg_name 3 sc__law_run.nd)) (sss_cons (ss_for bx.po rfl (si_seq (se_var 1)) (sg_name 4 sc__law_run.nd) (sss_cons (ss_asg (se_ix (se_ix (se_var 0) (se_var 2)) (se_var 4)) (sg_tup rfl (sgs_cons (sg_name 2 sc__law_run.nd) (sgs_cons (sg_name 5 sc__law_run.nd) sgs_nil)))) (sss_cons (ss_expr (se_app (se_var 3) (se_var 5))) sss_nil))) (sss_cons (ss_ret (se_tup (sa_cons (se_var 2) (sa_cons (se_var 3) sa_nil)))) sss_nil)))
abbrev s__law_laid : Stmt := top 55
abbrev N__law_laid : List Str := ["_law_many", "_law_story_here", "_law_marks_here", "_law_logs", "_law_hand", "_law_mark", "_law_log"]
theorem sc__law_laid : FnScope N__law_laid ["_law_many", "_law_story_here", "_law_marks_here"] (defScope s__law_laid) := ⟨rfl, rfl, rfl, by decide +kernel, rfl, by decide +kernel, by decide +kernel⟩
def lc__law_laid_0 : ME := mLc (iRange1 (mCons (mVar 0) mNil)) (gN 4) mYes (mLstC mNil) [4]
def lp__law_laid_0 : MS := sFor (iZip' (mCons (mVar 1) (mCons (mVar 2) mNil))) (gT 2 (gConss (gN 4) (gConss (gN 5) gNils))) (sSeq (sExpr (mApp (mBin fIx (mVar 3) (mVar 4)) (mVar 5))) sNext)
def lc__law_laid_1 : ME := mLc (iSeq (mVar 3)) (gN 6) mYes (mCB cTuple (mCons (mVar 6) mNil)) [6]
def m__law_laid : MS := (sSeq (sAsg (lc__law_laid_0) (gN 3)) (sSeq (lp__law_laid_0) (sSeq (sRet (mCB cTuple (mCons (lc__law_laid_1) mNil))) sNext)))
theorem ok__law_laid {f : Addr} {fd : FuncData} {mf : MF} (F : Fun K "_law_laid" "_law_laid" s__law_laid f fd) (X_ : Txt T K mg)  (me : Meets' 3 7 (m__law_laid) mf) :
    FnG P w K mg base (L2.CX P w) (k + 1) f fd ["_law_many", "_law_story_here", "_law_marks_here"] (spM T K 3 mf) := by
  refine ok_def (N := N__law_laid) (m := m__law_laid) F sc__law_laid rfl (fun cdv A outer s H E bx => ?_) me
  exact (sss_cons (ss_setLc (own := [("_law_hand", 4)]) rfl sc__law_laid.nd (by show BlkOk N__law_laid (defScope s__law_laid) _ [("_law_hand", 4)]; exact ⟨rfl, by decide +kernel, by decide +kernel, by decide +kernel, by decide +kernel⟩) (si_range1 X_.b_range (sa_cons (se_var 0) sa_nil)) (fun _ _ _ _ _ => (sgw_name 4 sc__law_laid.nd)) (fun _ _ _ _ _ => (se_lstC sa_nil))) (sss_cons (ss_for bx.po rfl (si_zip X_.b_zip (sa_cons (se_var 1) (sa_cons (se_var 2) sa_nil))) (sg_tup rfl (sgs_cons (sg_name 4 sc__law_laid.nd) (sgs_cons (sg_name 5 sc__law_laid.nd) sgs_nil))) (sss_cons (ss_expr (se_app (se_ix (se_var 3) (se_var 4)) (se_var 5))) sss_nil)) (sss_cons (ss_ret (se_tuple X_.b_tuple (sa_cons (se_lc (own := [("_law_log", 6)]) rfl sc__law_laid.nd (by show BlkOk N__law_laid (defScope s__law_laid) _ [("_law_log", 6)]; exact ⟨rfl, by decide +kernel, by decide +kernel, by decide +kernel, by decide +kernel⟩) (si_seq (se_var 3)) (fun _ _ _ _ _ => (sgw_name 6 sc__law_laid.nd)) (fun _ _ _ _ _ => (se_tuple X_.b_tuple (sa_cons (se_var 6) sa_nil)))) sa_nil))) sss_nil)))
abbrev s__law_back : Stmt := top 56
abbrev N__law_back : List Str := ["_law_moves_here", "_law_many", "_law_place", "_law_logs", "_law_turn", "_law_left", "_law_found", "_law_ways", "_law_ahead", "_law_hand", "_law_log"]
theorem sc__law_back : FnScope N__law_back ["_law_moves_here", "_law_many", "_law_place", "_law_logs"] (defScope s__law_back) := ⟨rfl, rfl, rfl, by decide +kernel, rfl, by decide +kernel, by decide +kernel⟩
def lc__law_back_0 : ME := mLc (iSeq (mVar 3)) (gN 10) mYes (mListC (mCons (mVar 10) mNil)) [10]
def lc__law_back_1 : ME := mLc (iSeq (mVar 3)) (gN 10) mYes (mCB cLen (mCons (mVar 10) mNil)) [10]
def lp__law_back_0 : MS := sFor (iRange1 (mCons (mVar 1) mNil)) (gN 9) (sSeq (sIf (mAnd (mBin fEqD (mBin fIx (mBin fIx (mBin fIx (mVar 0) (mVar 8)) (mVar 9)) (mC (.int 0))) (mVar 2)) (mAnd (mBin fNeD (mBin fIx (mVar 5) (mVar 9)) (mLst mNil)) (mBin fEqD (mBin fIx (mBin fIx (mBin fIx (mVar 0) (mVar 8)) (mVar 9)) (mC (.int 1))) (mBin fIx (mBin fIx (mVar 5) (mVar 9)) (mUn fNeg (mC (.int 1))))))) (sSeq (sExpr (mApp (mVar 7) (mTup (mCons (mVar 9) (mCons (mVar 8) mNil))))) sNext) sNext) sNext)
def lp__law_back_1 : MS := sFor (iRange1 (mCons (mCB cLen (mCons (mVar 0) mNil)) mNil)) (gN 8) (sSeq (lp__law_back_0) sNext)
def lp__law_back_2 : MS := sFor (iRange1 (mCons (mCB cSum (mCons (lc__law_back_1) mNil)) mNil)) (gN 4) (sSeq (sAsg (mLstC mNil) (gN 7)) (sSeq (lp__law_back_1) (sSeq (sIf (mBin fEqD (mVar 7) (mLst mNil)) (sSeq sBk sNext) sNext) (sSeq (sAsg (mBin fIx (mVar 7) (mC (.int 0))) (gT 2 (gConss (gN 9) (gConss (gN 2) gNils)))) (sSeq (sExpr (mPop (mBin fIx (mVar 5) (mVar 9)))) (sSeq (sExpr (mApp (mVar 6) (mVar 9))) sNext))))))
def m__law_back : MS := (sSeq (sPar 5 6 (mCons (lc__law_back_0) (mCons (mLstC mNil) mNil))) (sSeq (lp__law_back_2) (sSeq (sRet (mTup (mCons (mCB cTuple (mCons (mBack (mVar 6) (mBin fSub (mC (.int 0)) (mC (.int 1)))) mNil)) (mCons (mVar 2) mNil)))) sNext)))
theorem ok__law_back {f : Addr} {fd : FuncData} {mf : MF} (F : Fun K "_law_back" "_law_back" s__law_back f fd) (X_ : Txt T K mg)  (me : Meets' 4 11 (m__law_back) mf) :
    FnG P w K mg base (L2.CX P w) (k + 1) f fd ["_law_moves_here", "_law_many", "_law_place", "_law_logs"] (spM T K 4 mf) := by
  refine ok_def (N := N__law_back) (m := m__law_back) F sc__law_back rfl (fun cdv A outer s H E bx => ?_) me
  exact (sss_cons (ss_par rfl sc__law_back.nd (sa_cons (se_lc (own := [("_law_log", 10)]) rfl sc__law_back.nd (by show BlkOk N__law_back (defScope s__law_back) _ [("_law_log", 10)]; exact ⟨rfl, by decide +kernel, by decide +kernel, by decide +kernel, by decide +kernel⟩) (si_seq (se_var 3)) (fun _ _ _ _ _ => (sgw_name 10 sc__law_back.nd)) (fun _ _ _ _ _ => (se_listC X_.b_list (sa_cons (se_var 10) sa_nil)))) (sa_cons (se_lstC sa_nil) sa_nil)) (i := 5) (j := 6)) (sss_cons (ss_for bx.po rfl (si_range1 X_.b_range (sa_cons (se_sum X_.b_sum (sa_cons (se_lc (own := [("_law_log", 10)]) rfl sc__law_back.nd (by show BlkOk N__law_back (defScope s__law_back) _ [("_law_log", 10)]; exact ⟨rfl, by decide +kernel, by decide +kernel, by decide +kernel, by decide +kernel⟩) (si_seq (se_var 3)) (fun _ _ _ _ _ => (sgw_name 10 sc__law_back.nd)) (fun _ _ _ _ _ => (se_len X_.b_len (sa_cons (se_var 10) sa_nil)))) sa_nil)) sa_nil)) (sg_name 4 sc__law_back.nd) (sss_cons (ss_asg (se_lstC sa_nil) (sg_name 7 sc__law_back.nd)) (sss_cons (ss_for bx.po rfl (si_range1 X_.b_range (sa_cons (se_len X_.b_len (sa_cons (se_var 0) sa_nil)) sa_nil)) (sg_name 8 sc__law_back.nd) (sss_cons (ss_for bx.po rfl (si_range1 X_.b_range (sa_cons (se_var 1) sa_nil)) (sg_name 9 sc__law_back.nd) (sss_cons (ss_if (SW.pt (sw_and (st_eq bx.hu (se_ix (se_ix (se_ix (se_var 0) (se_var 8)) (se_var 9)) se_int) (se_var 2)) (sw_and (st_ne bx.hu (se_ix (se_var 5) (se_var 9)) (se_lst sa_nil)) (sw_and1 (st_eq bx.hu (se_ix (se_ix (se_ix (se_var 0) (se_var 8)) (se_var 9)) se_int) (se_ix (se_ix (se_var 5) (se_var 9)) (se_neg se_int))))))) (sss_cons (ss_expr (se_app (se_var 7) (se_tup (sa_cons (se_var 9) (sa_cons (se_var 8) sa_nil))))) sss_nil) sss_nil) sss_nil)) sss_nil)) (sss_cons (ss_if (st_eq bx.hu (se_var 7) (se_lst sa_nil)) (sss_cons ss_break sss_nil) sss_nil) (sss_cons (ss_asg (se_ix (se_var 7) se_int) (sg_tup rfl (sgs_cons (sg_name 9 sc__law_back.nd) (sgs_cons (sg_name 2 sc__law_back.nd) sgs_nil)))) (sss_cons (ss_expr (se_pop (se_ix (se_var 5) (se_var 9)))) (sss_cons (ss_expr (se_app (se_var 6) (se_var 9))) sss_nil))))))) (sss_cons (ss_ret (se_tup (sa_cons (se_tuple X_.b_tuple (sa_cons (se_back (se_var 6) (se_sub se_int se_int)) sa_nil)) (sa_cons (se_var 2) sa_nil)))) sss_nil)))
abbrev s__law_bent : Stmt := top 57
abbrev N__law_bent : List Str := ["_law_box_here", "_law_marks_here", "_law_logs", "_law_way", "_law_found", "_law_hand", "_law_spot", "_law_log"]
theorem sc__law_bent : FnScope N__law_bent ["_law_box_here", "_law_marks_here", "_law_logs"] (defScope s__law_bent) := ⟨rfl, rfl, rfl, by decide +kernel, rfl, by decide +kernel, by decide +kernel⟩
def lc__law_bent_0 (f__law_take : MF) : ME := mLcC (iSeq (mVar 2)) (gN 7) mYes (mCB cList (mCons (mVar 7) mNil)) [7]
def lc__law_bent_1 (f__law_take : MF) : ME := mLcC (iSeq (mVar 4)) (gN 7) mYes (mSl (mVar 7) (mPart (mCall 2 f__law_take [] (mCons (mVar 0) (mCons (mBin fAdd (mCB cLen (mCons (mVar 7) mNil)) (mC (.int 1))) mNil)))) (mC .non)) [7]
def lc__law_bent_2 (f__law_take : MF) : ME := mLc (iSeq (mVar 4)) (gN 7) mYes (mCB cTuple (mCons (mVar 7) mNil)) [7]
def m__law_bent (f__law_take : MF) : MS := (sSeq (sPar 4 5 (mCons (lc__law_bent_0 f__law_take) (mCons (mCall 2 f__law_take [] (mCons (mVar 0) (mCons (mCB cLen (mCons (mVar 2) mNil)) mNil))) mNil))) (sSeq (sAsg (mCall 2 f__law_take [] (mCons (mVar 0) (mCons (mC (.int 4)) mNil))) (gN 3)) (sSeq (sIf (mAnd (mBin fEqD (mVar 3) (mC (.int 0))) (mBin fNeD (mBin fIx (mVar 4) (mVar 5)) (mLst mNil))) (sSeq (sAsg (mCall 2 f__law_take [] (mCons (mVar 0) (mCons (mCB cLen (mCons (mBin fIx (mVar 4) (mVar 5)) mNil)) mNil))) (gN 6)) (sSeq (sPut (mBin fAdd (mBin fAdd (mSl (mBin fIx (mVar 4) (mVar 5)) (mC .non) (mPart (mVar 6))) (mLst (mCons (mCall 2 f__law_take [] (mCons (mVar 0) (mCons (mBin fIx (mVar 1) (mVar 5)) mNil))) mNil))) (mSl (mBin fIx (mVar 4) (mVar 5)) (mPart (mBin fAdd (mVar 6) (mC (.int 1)))) (mC .non))) (mVar 4) (mVar 5)) sNext)) (sSeq (sIf (mBin fEqD (mVar 3) (mC (.int 1))) (sSeq (sPut (mSl (mBin fIx (mVar 4) (mVar 5)) (mPart (mBin fAdd (mC (.int 1)) (mCall 2 f__law_take [] (mCons (mVar 0) (mCons (mC (.int 2)) mNil))))) (mC .non)) (mVar 4) (mVar 5)) sNext) (sSeq (sIf (mBin fEqD (mVar 3) (mC (.int 2))) (sSeq (sAsg (lc__law_bent_1 f__law_take) (gN 4)) sNext) (sSeq (sPut (mBin fAdd (mBin fIx (mVar 4) (mVar 5)) (mLst (mCons (mCall 2 f__law_take [] (mCons (mVar 0) (mCons (mBin fIx (mVar 1) (mVar 5)) mNil))) mNil))) (mVar 4) (mVar 5)) sNext)) sNext)) sNext)) (sSeq (sRet (mCB cTuple (mCons (lc__law_bent_2 f__law_take) mNil))) sNext))))
theorem ok__law_bent {f : Addr} {fd : FuncData} {mf : MF} {f__law_take : MF} (F : Fun K "_law_bent" "_law_bent" s__law_bent f fd) (X_ : Txt T K mg) (G__law_take_2 : FnM T P w K mg base k "_law_take" 2 [] f__law_take) (me : Meets' 3 8 (m__law_bent f__law_take) mf) :
    FnG P w K mg base (L2.CX P w) (k + 1) f fd ["_law_box_here", "_law_marks_here", "_law_logs"] (spM T K 3 mf) := by
  refine ok_def (N := N__law_bent) (m := m__law_bent f__law_take) F sc__law_bent rfl (fun cdv A outer s H E bx => ?_) me
  exact (sss_cons (ss_par rfl sc__law_bent.nd (sa_cons (se_lcC (own := [("_law_log", 7)]) rfl sc__law_bent.nd (by show BlkOk N__law_bent (defScope s__law_bent) _ [("_law_log", 7)]; exact ⟨rfl, by decide +kernel, by decide +kernel, by decide +kernel, by decide +kernel⟩) (si_seq (se_var 2)) (fun _ _ _ _ _ => (sgw_name 7 sc__law_bent.nd)) (fun _ _ _ _ _ => (se_list X_.b_list (sa_cons (se_var 7) sa_nil)))) (sa_cons (se_call G__law_take_2 bx.tk bx.hr (sa_cons (se_var 0) (sa_cons (se_len X_.b_len (sa_cons (se_var 2) sa_nil)) sa_nil))) sa_nil)) (i := 4) (j := 5)) (sss_cons (ss_asg (se_call G__law_take_2 bx.tk bx.hr (sa_cons (se_var 0) (sa_cons se_int sa_nil))) (sg_name 3 sc__law_bent.nd)) (sss_cons (ss_if (SW.pt (sw_and (st_eq bx.hu (se_var 3) se_int) (sw_and1 (st_ne bx.hu (se_ix (se_var 4) (se_var 5)) (se_lst sa_nil))))) (sss_cons (ss_asg (se_call G__law_take_2 bx.tk bx.hr (sa_cons (se_var 0) (sa_cons (se_len X_.b_len (sa_cons (se_ix (se_var 4) (se_var 5)) sa_nil)) sa_nil))) (sg_name 6 sc__law_bent.nd)) (sss_cons (ss_put (se_var 4) (se_var 5) (se_add (se_add (se_sl (se_ix (se_var 4) (se_var 5)) so_none (so_some (se_var 6))) (se_lst (sa_cons (se_call G__law_take_2 bx.tk bx.hr (sa_cons (se_var 0) (sa_cons (se_ix (se_var 1) (se_var 5)) sa_nil))) sa_nil))) (se_sl (se_ix (se_var 4) (se_var 5)) (so_some (se_add (se_var 6) se_int)) so_none))) sss_nil)) (sss_cons (ss_if (st_eq bx.hu (se_var 3) se_int) (sss_cons (ss_put (se_var 4) (se_var 5) (se_sl (se_ix (se_var 4) (se_var 5)) (so_some (se_add se_int (se_call G__law_take_2 bx.tk bx.hr (sa_cons (se_var 0) (sa_cons se_int sa_nil))))) so_none)) sss_nil) (sss_cons (ss_if (st_eq bx.hu (se_var 3) se_int) (sss_cons (ss_setLcC (own := [("_law_log", 7)]) rfl sc__law_bent.nd (by show BlkOk N__law_bent (defScope s__law_bent) _ [("_law_log", 7)]; exact ⟨rfl, by decide +kernel, by decide +kernel, by decide +kernel, by decide +kernel⟩) (si_seq (se_var 4)) (fun _ _ _ _ _ => (sgw_name 7 sc__law_bent.nd)) (fun _ _ _ _ _ => (se_sl (se_var 7) (so_some (se_call G__law_take_2 takesF bx.hr (sa_cons (se_var 0) (sa_cons (se_add (se_len X_.b_len (sa_cons (se_var 7) sa_nil)) se_int) sa_nil)))) so_none))) sss_nil) (sss_cons (ss_put (se_var 4) (se_var 5) (se_add (se_ix (se_var 4) (se_var 5)) (se_lst (sa_cons (se_call G__law_take_2 bx.tk bx.hr (sa_cons (se_var 0) (sa_cons (se_ix (se_var 1) (se_var 5)) sa_nil))) sa_nil)))) sss_nil)) sss_nil)) sss_nil)) (sss_cons (ss_ret (se_tuple X_.b_tuple (sa_cons (se_lc (own := [("_law_log", 7)]) rfl sc__law_bent.nd (by show BlkOk N__law_bent (defScope s__law_bent) _ [("_law_log", 7)]; exact ⟨rfl, by decide +kernel, by decide +kernel, by decide +kernel, by decide +kernel⟩) (si_seq (se_var 4)) (fun _ _ _ _ _ => (sgw_name 7 sc__law_bent.nd)) (fun _ _ _ _ _ => (se_tuple X_.b_tuple (sa_cons (se_var 7) sa_nil)))) sa_nil))) sss_nil))))
abbrev s_law : Stmt := top 58
abbrev N_law : List Str := ["_law_script", "_law_box_here", "_law_marks_here", "_law_least_here", "_law_number", "_law_start", "_law_k", "_law_digits", "_law_due", "_law_moves_here", "_law_story_here", "_law_long", "_law_logs", "_law_bent_here", "_law_at", "_law_place", "_law_given", "_law_turn", "_law_log"]
theorem sc_law : FnScope N_law ["_law_script"] (defScope s_law) := ⟨rfl, rfl, rfl, by decide +kernel, rfl, by decide +kernel, by decide +kernel⟩
def lc_law_0 (f__law_box : MF) (f__law_marks : MF) (f__law_least : MF) (f__law_goes : MF) (f__law_pick : MF) (f__law_moves : MF) (f__law_take : MF) (f__law_run : MF) (f__law_laid : MF) (f_digit_logs : MF) (f_digit_story : MF) (f__law_bent : MF) (f__law_back : MF) (i_Digits : MI) (i_Hands : MI) : ME := mLc (iSeq (mVar 12)) (gN 18) mYes (mCB cList (mCons (mVar 18) mNil)) [18]
def lp_law_0 (f__law_box : MF) (f__law_marks : MF) (f__law_least : MF) (f__law_goes : MF) (f__law_pick : MF) (f__law_moves : MF) (f__law_take : MF) (f__law_run : MF) (f__law_laid : MF) (f_digit_logs : MF) (f_digit_story : MF) (f__law_bent : MF) (f__law_back : MF) (i_Digits : MI) (i_Hands : MI) : MS := sFor (iRange2 (mCons (mC (.int 1)) (mCons (mCB cMax (mCons (mC (.int 12)) (mCons (mCB cMin (mCons (mCB cLen (mCons (mVar 0) mNil)) (mCons (mC (.int 40)) mNil))) mNil))) mNil))) (gN 6) (sSeq (sAsg (mCall 2 f__law_box [] (mCons (mVar 0) (mCons (mVar 6) mNil))) (gN 1)) (sSeq (sAsg (mBin fAdd (mVar 10) (mTup (mCons (mCall 2 f__law_take [] (mCons (mVar 1) (mCons (mCB cLen (mCons (mVar 2) mNil)) mNil))) mNil))) (gN 10)) (sSeq (sIf (mBin fEqD (mBin fMod (mCB cInt (mCons (mVar 6) mNil)) (mC (.int 3))) (mC (.int 0))) (sSeq (sAsg (mCall 3 f__law_run [] (mCons (mVar 9) (mCons (mVar 10) (mCons (mVar 5) mNil)))) (gT 2 (gConss (gN 15) (gConss (gN 16) gNils)))) (sSeq (sAsg (mCall 3 f__law_laid [] (mCons (mCB cLen (mCons (mVar 2) mNil)) (mCons (mVar 10) (mCons (mVar 16) mNil)))) (gN 12)) (sSeq (sIf (mOr (mBin fNeD (mCB cRepr (mCons (mCall 3 f_digit_logs [] (mCons (mVar 7) (mCons (mCB cList (mCons (mVar 10) mNil)) (mCons (mVar 5) mNil)))) mNil)) (mCB cRepr (mCons (mTup (mCons (mVar 15) (mCons (mVar 12) mNil))) mNil))) (mBin fNeD (mCB cRepr (mCons (mCall 3 f_digit_story [] (mCons (mVar 7) (mCons (mVar 15) (mCons (mVar 12) mNil)))) mNil)) (mCB cRepr (mCons (mTup (mCons (mVar 10) (mCons (mVar 5) mNil))) mNil)))) (sSeq (sRet (mC (.bl false))) sNext) sNext) (sSeq (sIf (mBin fNeD (mCallK 3 f_digit_story [2, 1, 0] (mCons (lc_law_0 f__law_box f__law_marks f__law_least f__law_goes f__law_pick f__law_moves f__law_take f__law_run f__law_laid f_digit_logs f_digit_story f__law_bent f__law_back i_Digits i_Hands) (mCons (mVar 15) (mCons (mVar 7) mNil)))) (mTup (mCons (mVar 10) (mCons (mVar 5) mNil)))) (sSeq (sRet (mC (.bl false))) sNext) sNext) (sSeq (sAsg (mCall 3 f__law_bent [] (mCons (mVar 1) (mCons (mVar 2) (mCons (mVar 12) mNil)))) (gN 13)) (sSeq (sAsg (mCall 2 f__law_pick [] (mCons (mVar 1) (mCons (mLst (mCons (mVar 15) (mCons (mVar 15) (mCons (mCall 2 f__law_take [] (mCons (mVar 1) (mCons (mFld cs_number "number" (mVar 7)) mNil))) mNil)))) mNil))) (gN 14)) (sSeq (sAsg (mCall 4 f__law_back [] (mCons (mVar 9) (mCons (mCB cLen (mCons (mVar 2) mNil)) (mCons (mVar 14) (mCons (mVar 13) mNil))))) (gN 8)) (sSeq (sIf (mBin fNeD (mCB cRepr (mCons (mCall 3 f_digit_story [] (mCons (mVar 7) (mCons (mVar 14) (mCons (mVar 13) mNil)))) mNil)) (mCB cRepr (mCons (mVar 8) mNil))) (sSeq (sRet (mC (.bl false))) sNext) sNext) (sSeq (sIf (mBin fNeD (mBin fIx (mCall 3 f__law_run [] (mCons (mVar 9) (mCons (mBin fIx (mVar 8) (mC (.int 0))) (mCons (mBin fIx (mVar 8) (mC (.int 1))) mNil)))) (mC (.int 0))) (mVar 14)) (sSeq (sRet (mC (.bl false))) sNext) sNext) sNext))))))))) sNext) sNext)))
def lc_law_1 (f__law_box : MF) (f__law_marks : MF) (f__law_least : MF) (f__law_goes : MF) (f__law_pick : MF) (f__law_moves : MF) (f__law_take : MF) (f__law_run : MF) (f__law_laid : MF) (f_digit_logs : MF) (f_digit_story : MF) (f__law_bent : MF) (f__law_back : MF) (i_Digits : MI) (i_Hands : MI) : ME := mLc (iRange1 (mCons (mC (.int 400)) mNil)) (gN 17) mYes (mCall 2 f__law_take [] (mCons (mVar 1) (mCons (mCB cLen (mCons (mVar 2) mNil)) mNil))) [17]
def m_law (f__law_box : MF) (f__law_marks : MF) (f__law_least : MF) (f__law_goes : MF) (f__law_pick : MF) (f__law_moves : MF) (f__law_take : MF) (f__law_run : MF) (f__law_laid : MF) (f_digit_logs : MF) (f_digit_story : MF) (f__law_bent : MF) (f__law_back : MF) (i_Digits : MI) (i_Hands : MI) : MS := (sSeq (sAsg (mCall 2 f__law_box [] (mCons (mVar 0) (mCons (mC (.int 0)) mNil))) (gN 1)) (sSeq (sAsg (mCall 1 f__law_marks [] (mCons (mVar 1) mNil)) (gN 2)) (sSeq (sAsg (mCall 1 f__law_least [] (mCons (mVar 2) mNil)) (gN 3)) (sSeq (sIf (mOr (mBin fIs (mVar 3) (mC .non)) (mBin fGt (mVar 3) (mC (.int 60)))) (sSeq (sAsg (mTup (mCons (mTup (mCons (mC (.int 2)) (mCons (mC (.int 3)) (mCons (mC (.int 6)) mNil)))) (mCons (mC (.int 6)) mNil))) (gT 2 (gConss (gN 2) (gConss (gN 3) gNils)))) sNext) sNext) (sSeq (sAsg (mIf (mCall 2 f__law_goes [] (mCons (mVar 2) (mCons (mBin fMul (mC (.int 6)) (mVar 3)) mNil))) (mCall 2 f__law_pick [] (mCons (mVar 1) (mCons (mLst (mCons (mC .non) (mCons (mVar 3) (mCons (mBin fMul (mC (.int 6)) (mVar 3)) mNil)))) mNil))) (mC .non)) (gN 4)) (sSeq (sPar 7 8 (mCons (mMake cDigits 2 i_Digits [] (mCons (mMake cHands 1 i_Hands [] (mCons (mVar 2) mNil)) (mCons (mVar 4) mNil))) (mCons (mIf (mBin fIs (mVar 4) (mC .non)) (mVar 3) (mVar 4)) mNil))) (sSeq (sPar 9 10 (mCons (mCall 2 f__law_moves [] (mCons (mVar 2) (mCons (mVar 8) mNil))) (mCons (mTup mNil) mNil))) (sSeq (sIf (mBin fNeD (mCB cRepr (mCons (mFld cs_number "number" (mVar 7)) mNil)) (mCB cRepr (mCons (mVar 8) mNil))) (sSeq (sRet (mC (.bl false))) sNext) sNext) (sSeq (sAsg (mCall 2 f__law_take [] (mCons (mVar 1) (mCons (mFld cs_number "number" (mVar 7)) mNil))) (gN 5)) (sSeq (lp_law_0 f__law_box f__law_marks f__law_least f__law_goes f__law_pick f__law_moves f__law_take f__law_run f__law_laid f_digit_logs f_digit_story f__law_bent f__law_back i_Digits i_Hands) (sSeq (sIf (mBin fNeD (mCallK 3 f_digit_logs [2, 1, 0] (mCons (mVar 5) (mCons (mVar 10) (mCons (mVar 7) mNil)))) (mCall 3 f_digit_logs [] (mCons (mVar 7) (mCons (mVar 10) (mCons (mVar 5) mNil))))) (sSeq (sRet (mC (.bl false))) sNext) sNext) (sSeq (sAsg (mCall 2 f__law_box [] (mCons (mVar 0) (mCons (mC (.int 41)) mNil))) (gN 1)) (sSeq (sIf (mBin fEqD (mCall 2 f__law_take [] (mCons (mVar 1) (mCons (mC (.int 8)) mNil))) (mC (.int 0))) (sSeq (sAsg (mCB cTuple (mCons (lc_law_1 f__law_box f__law_marks f__law_least f__law_goes f__law_pick f__law_moves f__law_take f__law_run f__law_laid f_digit_logs f_digit_story f__law_bent f__law_back i_Digits i_Hands) mNil)) (gN 11)) (sSeq (sAsg (mCall 3 f__law_run [] (mCons (mVar 9) (mCons (mVar 11) (mCons (mVar 5) mNil)))) (gT 2 (gConss (gN 15) (gConss (gN 16) gNils)))) (sSeq (sAsg (mCall 3 f__law_laid [] (mCons (mCB cLen (mCons (mVar 2) mNil)) (mCons (mVar 11) (mCons (mVar 16) mNil)))) (gN 12)) (sSeq (sIf (mOr (mBin fNeD (mCall 3 f_digit_logs [] (mCons (mVar 7) (mCons (mVar 11) (mCons (mVar 5) mNil)))) (mTup (mCons (mVar 15) (mCons (mVar 12) mNil)))) (mBin fNeD (mCall 3 f_digit_story [] (mCons (mVar 7) (mCons (mVar 15) (mCons (mVar 12) mNil)))) (mTup (mCons (mVar 11) (mCons (mVar 5) mNil))))) (sSeq (sRet (mC (.bl false))) sNext) sNext) sNext)))) sNext) (sSeq (sRet (mAnd (mBin fEqD (mCall 3 f_digit_logs [.int 0] (mCons (mVar 7) (mCons (mVar 10) mNil))) (mCall 3 f_digit_logs [] (mCons (mVar 7) (mCons (mVar 10) (mCons (mC (.int 0)) mNil))))) (mBin fEqD (mCall 3 f_digit_logs [] (mCons (mVar 7) (mCons (mTup mNil) (mCons (mVar 5) mNil)))) (mTup (mCons (mVar 5) (mCons (mBin fMul (mTup (mCons (mTup mNil) mNil)) (mCB cLen (mCons (mVar 2) mNil))) mNil)))))) sNext))))))))))))))
theorem ok_law {f : Addr} {fd : FuncData} {mf : MF} {f__law_box : MF} {f__law_marks : MF} {f__law_least : MF} {f__law_goes : MF} {f__law_pick : MF} {f__law_moves : MF} {f__law_take : MF} {f__law_run : MF} {f__law_laid : MF} {f_digit_logs : MF} {f_digit_story : MF} {f__law_bent : MF} {f__law_back : MF} {i_Digits : MI} {i_Hands : MI} (F : Fun K "law" "law" s_law f fd) (X_ : Txt T K mg) (G__law_box_2 : FnM T P w K mg base k "_law_box" 2 [] f__law_box) (G__law_marks_1 : FnM T P w K mg base k "_law_marks" 1 [] f__law_marks) (G__law_least_1 : FnM T P w K mg base k "_law_least" 1 [] f__law_least) (G__law_goes_2 : FnM T P w K mg base k "_law_goes" 2 [] f__law_goes) (G__law_pick_2 : FnM T P w K mg base k "_law_pick" 2 [] f__law_pick) (G__law_moves_2 : FnM T P w K mg base k "_law_moves" 2 [] f__law_moves) (G__law_take_2 : FnM T P w K mg base k "_law_take" 2 [] f__law_take) (G__law_run_3 : FnM T P w K mg base k "_law_run" 3 [] f__law_run) (G__law_laid_3 : FnM T P w K mg base k "_law_laid" 3 [] f__law_laid) (G_digit_logs_3 : FnM T P w K mg base k "digit_logs" 3 [] f_digit_logs) (G_digit_story_3 : FnM T P w K mg base k "digit_story" 3 [] f_digit_story) (G__law_bent_3 : FnM T P w K mg base k "_law_bent" 3 [] f__law_bent) (G__law_back_4 : FnM T P w K mg base k "_law_back" 4 [] f__law_back) (G_digit_logs_2 : FnM T P w K mg base k "digit_logs" 3 [.int 0] f_digit_logs) (K_digit_story : FnK T P w K mg base k "digit_story" 3 ["logs", "place", "digits"] [2, 1, 0] f_digit_story) (K_digit_logs : FnK T P w K mg base k "digit_logs" 3 ["place", "story", "digits"] [2, 1, 0] f_digit_logs) (M_Digits_2 : MkM T P w K mg base k "Digits" cDigits 2 [] i_Digits) (M_Hands_1 : MkM T P w K mg base k "Hands" cHands 1 [] i_Hands) (me : Meets' 1 19 (m_law f__law_box f__law_marks f__law_least f__law_goes f__law_pick f__law_moves f__law_take f__law_run f__law_laid f_digit_logs f_digit_story f__law_bent f__law_back i_Digits i_Hands) mf) :
    FnG P w K mg base (L2.CX P w) (k + 1 + 1) f fd ["_law_script"] (spM T K 1 mf) := by
  refine ok_def (N := N_law) (m := m_law f__law_box f__law_marks f__law_least f__law_goes f__law_pick f__law_moves f__law_take f__law_run f__law_laid f_digit_logs f_digit_story f__law_bent f__law_back i_Digits i_Hands) F sc_law rfl (fun cdv A outer s H E bx => ?_) me
  exact (sss_cons (ss_asg (se_call G__law_box_2 bx.tk (bx.hr.mono (Nat.le_succ k)) (sa_cons (se_var 0) (sa_cons se_int sa_nil))) (sg_name 1 sc_law.nd)) (sss_cons (ss_asg (se_call G__law_marks_1 bx.tk (bx.hr.mono (Nat.le_succ k)) (sa_cons (se_var 1) sa_nil)) (sg_name 2 sc_law.nd)) (sss_cons (ss_asg (se_call G__law_least_1 bx.tk (bx.hr.mono (Nat.le_succ k)) (sa_cons (se_var 2) sa_nil)) (sg_name 3 sc_law.nd)) (sss_cons (ss_if (SW.pt (sw_or (st_is (se_var 3) se_non) (sw_or1 (st_gt (se_var 3) se_int)))) (sss_cons (ss_asg (se_tup (sa_cons (se_tup (sa_cons se_int (sa_cons se_int (sa_cons se_int sa_nil)))) (sa_cons se_int sa_nil))) (sg_tup rfl (sgs_cons (sg_name 2 sc_law.nd) (sgs_cons (sg_name 3 sc_law.nd) sgs_nil)))) sss_nil) sss_nil) (sss_cons (ss_asg (se_if (st_val (se_call G__law_goes_2 bx.tk (bx.hr.mono (Nat.le_succ k)) (sa_cons (se_var 2) (sa_cons (se_mul se_int (se_var 3)) sa_nil)))) (se_call G__law_pick_2 bx.tk (bx.hr.mono (Nat.le_succ k)) (sa_cons (se_var 1) (sa_cons (se_lst (sa_cons se_non (sa_cons (se_var 3) (sa_cons (se_mul se_int (se_var 3)) sa_nil)))) sa_nil))) se_non) (sg_name 4 sc_law.nd)) (sss_cons (ss_par rfl sc_law.nd (sa_cons (se_make M_Digits_2 bx.tk bx.wi bx.hr (sa_cons (se_make M_Hands_1 bx.tk bx.wi bx.hr (sa_cons (se_var 2) sa_nil)) (sa_cons (se_var 4) sa_nil))) (sa_cons (se_if (st_is (se_var 4) se_non) (se_var 3) (se_var 4)) sa_nil)) (i := 7) (j := 8)) (sss_cons (ss_par rfl sc_law.nd (sa_cons (se_call G__law_moves_2 bx.tk (bx.hr.mono (Nat.le_succ k)) (sa_cons (se_var 2) (sa_cons (se_var 8) sa_nil))) (sa_cons (se_tup sa_nil) sa_nil)) (i := 9) (j := 10)) (sss_cons (ss_if (st_ne bx.hu (se_repr bx X_.b_repr (sa_cons (se_fld (X_.f_number) (se_var 7)) sa_nil)) (se_repr bx X_.b_repr (sa_cons (se_var 8) sa_nil))) (sss_cons (ss_ret se_bl) sss_nil) sss_nil) (sss_cons (ss_asg (se_call G__law_take_2 bx.tk (bx.hr.mono (Nat.le_succ k)) (sa_cons (se_var 1) (sa_cons (se_fld (X_.f_number) (se_var 7)) sa_nil))) (sg_name 5 sc_law.nd)) (sss_cons (ss_for bx.po rfl (si_range2 X_.b_range (sa_cons se_int (sa_cons (se_max X_.b_max (sa_cons se_int (sa_cons (se_min X_.b_min (sa_cons (se_len X_.b_len (sa_cons (se_var 0) sa_nil)) (sa_cons se_int sa_nil))) sa_nil))) sa_nil))) (sg_name 6 sc_law.nd) (sss_cons (ss_asg (se_call G__law_box_2 bx.tk (bx.hr.mono (Nat.le_succ k)) (sa_cons (se_var 0) (sa_cons (se_var 6) sa_nil))) (sg_name 1 sc_law.nd)) (sss_cons (ss_asg (se_add (se_var 10) (se_tup (sa_cons (se_call G__law_take_2 bx.tk (bx.hr.mono (Nat.le_succ k)) (sa_cons (se_var 1) (sa_cons (se_len X_.b_len (sa_cons (se_var 2) sa_nil)) sa_nil))) sa_nil))) (sg_name 10 sc_law.nd)) (sss_cons (ss_if (st_eq bx.hu (se_mod (se_intc X_.b_int (sa_cons (se_var 6) sa_nil)) se_int) se_int) (sss_cons (ss_asg (se_call G__law_run_3 bx.tk (bx.hr.mono (Nat.le_succ k)) (sa_cons (se_var 9) (sa_cons (se_var 10) (sa_cons (se_var 5) sa_nil)))) (sg_tup rfl (sgs_cons (sg_name 15 sc_law.nd) (sgs_cons (sg_name 16 sc_law.nd) sgs_nil)))) (sss_cons (ss_asg (se_call G__law_laid_3 bx.tk (bx.hr.mono (Nat.le_succ k)) (sa_cons (se_len X_.b_len (sa_cons (se_var 2) sa_nil)) (sa_cons (se_var 10) (sa_cons (se_var 16) sa_nil)))) (sg_name 12 sc_law.nd)) (sss_cons (ss_if (SW.pt (sw_or (st_ne bx.hu (se_repr bx X_.b_repr (sa_cons (se_call G_digit_logs_3 bx.tk (bx.hr.mono (Nat.le_succ k)) (sa_cons (se_var 7) (sa_cons (se_list X_.b_list (sa_cons (se_var 10) sa_nil)) (sa_cons (se_var 5) sa_nil)))) sa_nil)) (se_repr bx X_.b_repr (sa_cons (se_tup (sa_cons (se_var 15) (sa_cons (se_var 12) sa_nil))) sa_nil))) (sw_or1 (st_ne bx.hu (se_repr bx X_.b_repr (sa_cons (se_call G_digit_story_3 bx.tk (bx.hr.mono (Nat.le_succ k)) (sa_cons (se_var 7) (sa_cons (se_var 15) (sa_cons (se_var 12) sa_nil)))) sa_nil)) (se_repr bx X_.b_repr (sa_cons (se_tup (sa_cons (se_var 10) (sa_cons (se_var 5) sa_nil))) sa_nil)))))) (sss_cons (ss_ret se_bl) sss_nil) sss_nil) (sss_cons (ss_if (st_ne bx.hu (se_callK K_digit_story bx.tk (bx.hr.mono (Nat.le_succ k)) (sk_cons (se_lc (own := [("_law_log", 18)]) rfl sc_law.nd (by show BlkOk N_law (defScope s_law) _ [("_law_log", 18)]; exact ⟨rfl, by decide +kernel, by decide +kernel, by decide +kernel, by decide +kernel⟩) (si_seq (se_var 12)) (fun _ _ _ _ _ => (sgw_name 18 sc_law.nd)) (fun _ _ _ _ _ => (se_list X_.b_list (sa_cons (se_var 18) sa_nil)))) (sk_cons (se_var 15) (sk_cons (se_var 7) sk_nil)))) (se_tup (sa_cons (se_var 10) (sa_cons (se_var 5) sa_nil)))) (sss_cons (ss_ret se_bl) sss_nil) sss_nil) (sss_cons (ss_asg (se_call G__law_bent_3 bx.tk (bx.hr.mono (Nat.le_succ k)) (sa_cons (se_var 1) (sa_cons (se_var 2) (sa_cons (se_var 12) sa_nil)))) (sg_name 13 sc_law.nd)) (sss_cons (ss_asg (se_call G__law_pick_2 bx.tk (bx.hr.mono (Nat.le_succ k)) (sa_cons (se_var 1) (sa_cons (se_lst (sa_cons (se_var 15) (sa_cons (se_var 15) (sa_cons (se_call G__law_take_2 bx.tk (bx.hr.mono (Nat.le_succ k)) (sa_cons (se_var 1) (sa_cons (se_fld (X_.f_number) (se_var 7)) sa_nil))) sa_nil)))) sa_nil))) (sg_name 14 sc_law.nd)) (sss_cons (ss_asg (se_call G__law_back_4 bx.tk (bx.hr.mono (Nat.le_succ k)) (sa_cons (se_var 9) (sa_cons (se_len X_.b_len (sa_cons (se_var 2) sa_nil)) (sa_cons (se_var 14) (sa_cons (se_var 13) sa_nil))))) (sg_name 8 sc_law.nd)) (sss_cons (ss_if (st_ne bx.hu (se_repr bx X_.b_repr (sa_cons (se_call G_digit_story_3 bx.tk (bx.hr.mono (Nat.le_succ k)) (sa_cons (se_var 7) (sa_cons (se_var 14) (sa_cons (se_var 13) sa_nil)))) sa_nil)) (se_repr bx X_.b_repr (sa_cons (se_var 8) sa_nil))) (sss_cons (ss_ret se_bl) sss_nil) sss_nil) (sss_cons (ss_if (st_ne bx.hu (se_ix (se_call G__law_run_3 bx.tk (bx.hr.mono (Nat.le_succ k)) (sa_cons (se_var 9) (sa_cons (se_ix (se_var 8) se_int) (sa_cons (se_ix (se_var 8) se_int) sa_nil)))) se_int) (se_var 14)) (sss_cons (ss_ret se_bl) sss_nil) sss_nil) sss_nil))))))))) sss_nil) sss_nil)))) (sss_cons (ss_if (st_ne bx.hu (se_callK K_digit_logs bx.tk (bx.hr.mono (Nat.le_succ k)) (sk_cons (se_var 5) (sk_cons (se_var 10) (sk_cons (se_var 7) sk_nil)))) (se_call G_digit_logs_3 bx.tk (bx.hr.mono (Nat.le_succ k)) (sa_cons (se_var 7) (sa_cons (se_var 10) (sa_cons (se_var 5) sa_nil))))) (sss_cons (ss_ret se_bl) sss_nil) sss_nil) (sss_cons (ss_asg (se_call G__law_box_2 bx.tk (bx.hr.mono (Nat.le_succ k)) (sa_cons (se_var 0) (sa_cons se_int sa_nil))) (sg_name 1 sc_law.nd)) (sss_cons (ss_if (st_eq bx.hu (se_call G__law_take_2 bx.tk (bx.hr.mono (Nat.le_succ k)) (sa_cons (se_var 1) (sa_cons se_int sa_nil))) se_int) (sss_cons (ss_asg (se_tuple X_.b_tuple (sa_cons (se_lc (own := [("_law_turn", 17)]) rfl sc_law.nd (by show BlkOk N_law (defScope s_law) _ [("_law_turn", 17)]; exact ⟨rfl, by decide +kernel, by decide +kernel, by decide +kernel, by decide +kernel⟩) (si_range1 X_.b_range (sa_cons se_int sa_nil)) (fun _ _ _ _ _ => (sgw_name 17 sc_law.nd)) (fun _ _ _ _ _ => (se_call G__law_take_2 takesF (bx.hr.mono (Nat.le_succ k)) (sa_cons (se_var 1) (sa_cons (se_len X_.b_len (sa_cons (se_var 2) sa_nil)) sa_nil))))) sa_nil)) (sg_name 11 sc_law.nd)) (sss_cons (ss_asg (se_call G__law_run_3 bx.tk (bx.hr.mono (Nat.le_succ k)) (sa_cons (se_var 9) (sa_cons (se_var 11) (sa_cons (se_var 5) sa_nil)))) (sg_tup rfl (sgs_cons (sg_name 15 sc_law.nd) (sgs_cons (sg_name 16 sc_law.nd) sgs_nil)))) (sss_cons (ss_asg (se_call G__law_laid_3 bx.tk (bx.hr.mono (Nat.le_succ k)) (sa_cons (se_len X_.b_len (sa_cons (se_var 2) sa_nil)) (sa_cons (se_var 11) (sa_cons (se_var 16) sa_nil)))) (sg_name 12 sc_law.nd)) (sss_cons (ss_if (SW.pt (sw_or (st_ne bx.hu (se_call G_digit_logs_3 bx.tk (bx.hr.mono (Nat.le_succ k)) (sa_cons (se_var 7) (sa_cons (se_var 11) (sa_cons (se_var 5) sa_nil)))) (se_tup (sa_cons (se_var 15) (sa_cons (se_var 12) sa_nil)))) (sw_or1 (st_ne bx.hu (se_call G_digit_story_3 bx.tk (bx.hr.mono (Nat.le_succ k)) (sa_cons (se_var 7) (sa_cons (se_var 15) (sa_cons (se_var 12) sa_nil)))) (se_tup (sa_cons (se_var 11) (sa_cons (se_var 5) sa_nil))))))) (sss_cons (ss_ret se_bl) sss_nil) sss_nil) sss_nil)))) sss_nil) (sss_cons (ss_ret (se_and (se_eq bx.hu (se_call G_digit_logs_2 bx.tk (bx.hr.mono (Nat.le_succ k)) (sa_cons (se_var 7) (sa_cons (se_var 10) sa_nil))) (se_call G_digit_logs_3 bx.tk (bx.hr.mono (Nat.le_succ k)) (sa_cons (se_var 7) (sa_cons (se_var 10) (sa_cons se_int sa_nil))))) (se_one (se_eq bx.hu (se_call G_digit_logs_3 bx.tk (bx.hr.mono (Nat.le_succ k)) (sa_cons (se_var 7) (sa_cons (se_tup sa_nil) (sa_cons (se_var 5) sa_nil)))) (se_tup (sa_cons (se_var 5) (sa_cons (se_mul (se_tup (sa_cons (se_tup sa_nil) sa_nil)) (se_len X_.b_len (sa_cons (se_var 2) sa_nil))) sa_nil))))))) sss_nil))))))))))))))
end
end K16


set_option Elab.async false
set_option linter.all false
set_option maxRecDepth 100000
namespace K16
open PySem PySem.Spec PyProof.Rows L2 Py
def f_is_integer : MF := fun ds h => match ds with | [.int _] => .ok (.bl true) h | _ => .no
theorem me_is_integer : Meets' 1 1 m_is_integer f_is_integer := by
  intro ds h hl lo bel ne
  unfold f_is_integer at ne ⊢
  split at ne
  · simp only [m_is_integer, fIsi, tyName, isAny, isK_ii, isK_ib, Option.map_some, Bool.not_false, startD, List.map_cons, List.map_nil, List.length_cons, List.length_nil, List.replicate_succ, List.replicate_zero, List.cons_append, List.nil_append, List.append_nil, sSeq, sNext, sAsg, sExpr, sRet, sRetN, sIf, sPar, sAug, sFor, sNo, sSetF, RE.bind, RE.bindA, RA.bindA, RA.bind, RE.bindS, RS.bind, lift, mVar, mC, mBin, mUn, mCB, mCons, mNil, mTup, mLst, mLstC, mChain, mAnd, mOr, mNot, mIf, mTru, mCall, mFld, ar, gN, gNils, gConss, gT, List.getElem?_cons_zero, List.getElem?_cons_succ, List.set_cons_zero, List.set_cons_succ, fEqD_int, fNeD_int, fAdd_int, fSub_int, fLt_int, fLe_int, fGt_int, fGe_int, Nat.reduceSub, RSrc.bindS, RSrc.bind, RE.src, RA.src, iSeq, iEnum', Src.items, Nat.reduceAdd, reduceIte]
    exact dr_rt rfl
  · exact absurd rfl ne
def f_is_number : MF := fun ds h => match ds with | [.int i] => .ok (.bl (decide (0 ≤ i))) h | _ => .no
theorem me_is_number : Meets' 1 1 (m_is_number f_is_integer) f_is_number := by
  intro ds h hl lo bel ne
  unfold f_is_number at ne ⊢
  split at ne
  · simp only [m_is_number, f_is_integer, startD, List.map_cons, List.map_nil, List.length_cons, List.length_nil, List.replicate_succ, List.replicate_zero, List.cons_append, List.nil_append, List.append_nil, sSeq, sNext, sAsg, sExpr, sRet, sRetN, sIf, sPar, sAug, sFor, sNo, sSetF, RE.bind, RE.bindA, RA.bindA, RA.bind, RE.bindS, RS.bind, lift, mVar, mC, mBin, mUn, mCB, mCons, mNil, mTup, mLst, mLstC, mChain, mAnd, mOr, mNot, mIf, mTru, mCall, mFld, ar, gN, gNils, gConss, gT, List.getElem?_cons_zero, List.getElem?_cons_succ, List.set_cons_zero, List.set_cons_succ, fEqD_int, fNeD_int, fAdd_int, fSub_int, fLt_int, fLe_int, fGt_int, fGe_int, Nat.reduceSub, RSrc.bindS, RSrc.bind, RE.src, RA.src, iSeq, iEnum', Src.items, Nat.reduceAdd, reduceIte]
    exact dr_rt rfl
  · exact absurd rfl ne
def f_is_below : MF := fun ds h => match ds with | [.int i, .int n] => .ok (.bl (decide (0 ≤ i) && decide (i < n))) h | _ => .no
theorem me_is_below : Meets' 2 2 (m_is_below f_is_number) f_is_below := by
  intro ds h hl lo bel ne
  unfold f_is_below at ne ⊢
  split at ne
  · next i n =>
    simp only [m_is_below, f_is_number, startD, List.map_cons, List.map_nil, List.length_cons, List.length_nil, List.replicate_succ, List.replicate_zero, List.cons_append, List.nil_append, List.append_nil, sSeq, sNext, sAsg, sExpr, sRet, sRetN, sIf, sPar, sAug, sFor, sNo, sSetF, RE.bind, RE.bindA, RA.bindA, RA.bind, RE.bindS, RS.bind, lift, mVar, mC, mBin, mUn, mCB, mCons, mNil, mTup, mLst, mLstC, mChain, mAnd, mOr, mNot, mIf, mTru, mCall, mFld, ar, gN, gNils, gConss, gT, List.getElem?_cons_zero, List.getElem?_cons_succ, List.set_cons_zero, List.set_cons_succ, fEqD_int, fNeD_int, fAdd_int, fSub_int, fLt_int, fLe_int, fGt_int, fGe_int, Nat.reduceSub, RSrc.bindS, RSrc.bind, RE.src, RA.src, iSeq, iEnum', Src.items, Nat.reduceAdd, reduceIte]
    by_cases c : 0 ≤ i
    · simp only [c, decide_true, Bool.true_and, startD, List.map_cons, List.map_nil, List.length_cons, List.length_nil, List.replicate_succ, List.replicate_zero, List.cons_append, List.nil_append, List.append_nil, sSeq, sNext, sAsg, sExpr, sRet, sRetN, sIf, sPar, sAug, sFor, sNo, sSetF, RE.bind, RE.bindA, RA.bindA, RA.bind, RE.bindS, RS.bind, lift, mVar, mC, mBin, mUn, mCB, mCons, mNil, mTup, mLst, mLstC, mChain, mAnd, mOr, mNot, mIf, mTru, mCall, mFld, ar, gN, gNils, gConss, gT, List.getElem?_cons_zero, List.getElem?_cons_succ, List.set_cons_zero, List.set_cons_succ, fEqD_int, fNeD_int, fAdd_int, fSub_int, fLt_int, fLe_int, fGt_int, fGe_int, Nat.reduceSub, RSrc.bindS, RSrc.bind, RE.src, RA.src, iSeq, iEnum', Src.items, Nat.reduceAdd, reduceIte]
      exact dr_rt rfl
    · simp only [c, decide_false, Bool.false_and, startD, List.map_cons, List.map_nil, List.length_cons, List.length_nil, List.replicate_succ, List.replicate_zero, List.cons_append, List.nil_append, List.append_nil, sSeq, sNext, sAsg, sExpr, sRet, sRetN, sIf, sPar, sAug, sFor, sNo, sSetF, RE.bind, RE.bindA, RA.bindA, RA.bind, RE.bindS, RS.bind, lift, mVar, mC, mBin, mUn, mCB, mCons, mNil, mTup, mLst, mLstC, mChain, mAnd, mOr, mNot, mIf, mTru, mCall, mFld, ar, gN, gNils, gConss, gT, List.getElem?_cons_zero, List.getElem?_cons_succ, List.set_cons_zero, List.set_cons_succ, fEqD_int, fNeD_int, fAdd_int, fSub_int, fLt_int, fLe_int, fGt_int, fGe_int, Nat.reduceSub, RSrc.bindS, RSrc.bind, RE.src, RA.src, iSeq, iEnum', Src.items, Nat.reduceAdd, reduceIte]
      exact dr_rt rfl
  · exact absurd rfl ne
def f_is_within : MF := fun ds h => match ds with | [.int i, .int a, .int b] => .ok (.bl (decide (a ≤ i) && decide (i ≤ b))) h | _ => .no
theorem me_is_within : Meets' 3 3 (m_is_within f_is_integer) f_is_within := by
  intro ds h hl lo bel ne
  unfold f_is_within at ne ⊢
  split at ne
  · next i a b =>
    simp only [m_is_within, f_is_integer, startD, List.map_cons, List.map_nil, List.length_cons, List.length_nil, List.replicate_succ, List.replicate_zero, List.cons_append, List.nil_append, List.append_nil, sSeq, sNext, sAsg, sExpr, sRet, sRetN, sIf, sPar, sAug, sFor, sNo, sSetF, RE.bind, RE.bindA, RA.bindA, RA.bind, RE.bindS, RS.bind, lift, mVar, mC, mBin, mUn, mCB, mCons, mNil, mTup, mLst, mLstC, mChain, mAnd, mOr, mNot, mIf, mTru, mCall, mFld, ar, gN, gNils, gConss, gT, List.getElem?_cons_zero, List.getElem?_cons_succ, List.set_cons_zero, List.set_cons_succ, fEqD_int, fNeD_int, fAdd_int, fSub_int, fLt_int, fLe_int, fGt_int, fGe_int, Nat.reduceSub, RSrc.bindS, RSrc.bind, RE.src, RA.src, iSeq, iEnum', Src.items, Nat.reduceAdd, reduceIte]
    by_cases c : a ≤ i
    · simp only [c, decide_true, Bool.true_and, startD, List.map_cons, List.map_nil, List.length_cons, List.length_nil, List.replicate_succ, List.replicate_zero, List.cons_append, List.nil_append, List.append_nil, sSeq, sNext, sAsg, sExpr, sRet, sRetN, sIf, sPar, sAug, sFor, sNo, sSetF, RE.bind, RE.bindA, RA.bindA, RA.bind, RE.bindS, RS.bind, lift, mVar, mC, mBin, mUn, mCB, mCons, mNil, mTup, mLst, mLstC, mChain, mAnd, mOr, mNot, mIf, mTru, mCall, mFld, ar, gN, gNils, gConss, gT, List.getElem?_cons_zero, List.getElem?_cons_succ, List.set_cons_zero, List.set_cons_succ, fEqD_int, fNeD_int, fAdd_int, fSub_int, fLt_int, fLe_int, fGt_int, fGe_int, Nat.reduceSub, RSrc.bindS, RSrc.bind, RE.src, RA.src, iSeq, iEnum', Src.items, Nat.reduceAdd, reduceIte]
      exact dr_rt rfl
    · simp only [c, decide_false, Bool.false_and, startD, List.map_cons, List.map_nil, List.length_cons, List.length_nil, List.replicate_succ, List.replicate_zero, List.cons_append, List.nil_append, List.append_nil, sSeq, sNext, sAsg, sExpr, sRet, sRetN, sIf, sPar, sAug, sFor, sNo, sSetF, RE.bind, RE.bindA, RA.bindA, RA.bind, RE.bindS, RS.bind, lift, mVar, mC, mBin, mUn, mCB, mCons, mNil, mTup, mLst, mLstC, mChain, mAnd, mOr, mNot, mIf, mTru, mCall, mFld, ar, gN, gNils, gConss, gT, List.getElem?_cons_zero, List.getElem?_cons_succ, List.set_cons_zero, List.set_cons_succ, fEqD_int, fNeD_int, fAdd_int, fSub_int, fLt_int, fLe_int, fGt_int, fGe_int, Nat.reduceSub, RSrc.bindS, RSrc.bind, RE.src, RA.src, iSeq, iEnum', Src.items, Nat.reduceAdd, reduceIte]
      exact dr_rt rfl
  · exact absurd rfl ne
def f_is_sequence : MF := fun ds h => match ds with | [d] => (match seqOf h d with | some _ => .ok (.bl true) h | none => .no) | _ => .no
theorem ty_seq {h : CH} {d : D} {l : List D} (e : seqOf h d = some l) : tyName h d = some "list" ∨ tyName h d = some "tuple" := by
  cases d with
  | tup _ => exact .inr rfl
  | lst _ => exact .inl rfl
  | scr _ => exact .inl rfl
  | cell n =>
    simp only [seqOf, lstOf] at e
    split at e
    · next q => exact .inl (by simp [tyName, q])
    · cases e
  | _ => cases e
theorem me_is_sequence : Meets' 1 1 m_is_sequence f_is_sequence := by
  intro ds h hl lo bel ne
  unfold f_is_sequence at ne ⊢
  split at ne
  · next d =>
    split at ne
    · next l e =>
      simp only [e, m_is_sequence, startD, List.map_cons, List.map_nil, List.length_cons, List.length_nil, List.replicate_succ, List.replicate_zero, List.cons_append, List.nil_append, List.append_nil, sSeq, sNext, sAsg, sExpr, sRet, sRetN, sIf, sPar, sAug, sFor, sNo, sSetF, RE.bind, RE.bindA, RA.bindA, RA.bind, RE.bindS, RS.bind, lift, mVar, mC, mBin, mUn, mCB, mCons, mNil, mTup, mLst, mLstC, mChain, mAnd, mOr, mNot, mIf, mTru, mCall, mFld, ar, gN, gNils, gConss, gT, List.getElem?_cons_zero, List.getElem?_cons_succ, List.set_cons_zero, List.set_cons_succ, fEqD_int, fNeD_int, fAdd_int, fSub_int, fLt_int, fLe_int, fGt_int, fGe_int, Nat.reduceSub, RSrc.bindS, RSrc.bind, RE.src, RA.src, iSeq, iEnum', Src.items, Nat.reduceAdd, reduceIte]
      rcases ty_seq e with z | z
      · simp only [fIsi, z, isAny, isK_ll, Option.map_some, startD, List.map_cons, List.map_nil, List.length_cons, List.length_nil, List.replicate_succ, List.replicate_zero, List.cons_append, List.nil_append, List.append_nil, sSeq, sNext, sAsg, sExpr, sRet, sRetN, sIf, sPar, sAug, sFor, sNo, sSetF, RE.bind, RE.bindA, RA.bindA, RA.bind, RE.bindS, RS.bind, lift, mVar, mC, mBin, mUn, mCB, mCons, mNil, mTup, mLst, mLstC, mChain, mAnd, mOr, mNot, mIf, mTru, mCall, mFld, ar, gN, gNils, gConss, gT, List.getElem?_cons_zero, List.getElem?_cons_succ, List.set_cons_zero, List.set_cons_succ, fEqD_int, fNeD_int, fAdd_int, fSub_int, fLt_int, fLe_int, fGt_int, fGe_int, Nat.reduceSub, RSrc.bindS, RSrc.bind, RE.src, RA.src, iSeq, iEnum', Src.items, Nat.reduceAdd, reduceIte]
        exact dr_rt rfl
      · simp only [fIsi, z, isAny, isK_tl, isK_tt, Option.map_some, startD, List.map_cons, List.map_nil, List.length_cons, List.length_nil, List.replicate_succ, List.replicate_zero, List.cons_append, List.nil_append, List.append_nil, sSeq, sNext, sAsg, sExpr, sRet, sRetN, sIf, sPar, sAug, sFor, sNo, sSetF, RE.bind, RE.bindA, RA.bindA, RA.bind, RE.bindS, RS.bind, lift, mVar, mC, mBin, mUn, mCB, mCons, mNil, mTup, mLst, mLstC, mChain, mAnd, mOr, mNot, mIf, mTru, mCall, mFld, ar, gN, gNils, gConss, gT, List.getElem?_cons_zero, List.getElem?_cons_succ, List.set_cons_zero, List.set_cons_succ, fEqD_int, fNeD_int, fAdd_int, fSub_int, fLt_int, fLe_int, fGt_int, fGe_int, Nat.reduceSub, RSrc.bindS, RSrc.bind, RE.src, RA.src, iSeq, iEnum', Src.items, Nat.reduceAdd, reduceIte]
        exact dr_rt rfl
    · exact absurd rfl ne
  · exact absurd rfl ne
def f_common_divisor : MF := fun ds h => match ds with | [.int a, .int b] => if 0 ≤ a ∧ 0 ≤ b then .ok (.int (Int.gcd a b)) h else .no | _ => .no
theorem gcd_run (h : CH) : ∀ (n a b : Nat), b < n → whileK (mBin fNeD (mVar 1) (mC (.int 0))) (sSeq (sPar 0 1 (mCons (mVar 1) (mCons (mBin fMod (mVar 0) (mVar 1)) mNil))) sNext) n [some (.int a), some (.int b)] h = .nx [some (.int (Nat.gcd a b)), some (.int 0)] h
  | 0, _, _, c => absurd c (Nat.not_lt_zero _)
  | n + 1, a, b, c => by
    unfold whileK
    simp only [startD, List.map_cons, List.map_nil, List.length_cons, List.length_nil, List.replicate_succ, List.replicate_zero, List.cons_append, List.nil_append, List.append_nil, sSeq, sNext, sAsg, sExpr, sRet, sRetN, sIf, sPar, sAug, sFor, sNo, sSetF, RE.bind, RE.bindA, RA.bindA, RA.bind, RE.bindS, RS.bind, lift, mVar, mC, mBin, mUn, mCB, mCons, mNil, mTup, mLst, mLstC, mChain, mAnd, mOr, mNot, mIf, mTru, mCall, mFld, ar, gN, gNils, gConss, gT, List.getElem?_cons_zero, List.getElem?_cons_succ, List.set_cons_zero, List.set_cons_succ, fEqD_int, fNeD_int, fAdd_int, fSub_int, fLt_int, fLe_int, fGt_int, fGe_int, Nat.reduceSub, RSrc.bindS, RSrc.bind, RE.src, RA.src, iSeq, iEnum', Src.items, Nat.reduceAdd, reduceIte]
    by_cases z : b = 0
    · subst z
      simp
    · have e : ¬ (b : Int) = 0 := by omega
      have p : (0 : Int) < b := by omega
      simp only [e, decide_false, Bool.not_false, fMod_int h p, startD, List.map_cons, List.map_nil, List.length_cons, List.length_nil, List.replicate_succ, List.replicate_zero, List.cons_append, List.nil_append, List.append_nil, sSeq, sNext, sAsg, sExpr, sRet, sRetN, sIf, sPar, sAug, sFor, sNo, sSetF, RE.bind, RE.bindA, RA.bindA, RA.bind, RE.bindS, RS.bind, lift, mVar, mC, mBin, mUn, mCB, mCons, mNil, mTup, mLst, mLstC, mChain, mAnd, mOr, mNot, mIf, mTru, mCall, mFld, ar, gN, gNils, gConss, gT, List.getElem?_cons_zero, List.getElem?_cons_succ, List.set_cons_zero, List.set_cons_succ, fEqD_int, fNeD_int, fAdd_int, fSub_int, fLt_int, fLe_int, fGt_int, fGe_int, Nat.reduceSub, RSrc.bindS, RSrc.bind, RE.src, RA.src, iSeq, iEnum', Src.items, Nat.reduceAdd, reduceIte]
      have q := gcd_run h n b (a % b) (by have := Nat.mod_lt a (Nat.pos_of_ne_zero z); omega)
      rw [← Int.natCast_emod, q, Nat.gcd_comm b (a % b), ← Nat.gcd_rec, Nat.gcd_comm]
theorem me_common_divisor : Meets' 2 2 m_common_divisor f_common_divisor := by
  intro ds h hl lo bel ne
  unfold f_common_divisor at ne ⊢
  split at ne
  · next a b =>
    split at ne
    · next c =>
      obtain ⟨a, rfl⟩ := Int.eq_ofNat_of_zero_le c.1
      obtain ⟨b, rfl⟩ := Int.eq_ofNat_of_zero_le c.2
      simp only [c, m_common_divisor, wh_common_divisor_0, sWhile, nb_gcd, and_self, startD, List.map_cons, List.map_nil, List.length_cons, List.length_nil, List.replicate_succ, List.replicate_zero, List.cons_append, List.nil_append, List.append_nil, sSeq, sNext, sAsg, sExpr, sRet, sRetN, sIf, sPar, sAug, sFor, sNo, sSetF, RE.bind, RE.bindA, RA.bindA, RA.bind, RE.bindS, RS.bind, lift, mVar, mC, mBin, mUn, mCB, mCons, mNil, mTup, mLst, mLstC, mChain, mAnd, mOr, mNot, mIf, mTru, mCall, mFld, ar, gN, gNils, gConss, gT, List.getElem?_cons_zero, List.getElem?_cons_succ, List.set_cons_zero, List.set_cons_succ, fEqD_int, fNeD_int, fAdd_int, fSub_int, fLt_int, fLe_int, fGt_int, fGe_int, Nat.reduceSub, RSrc.bindS, RSrc.bind, RE.src, RA.src, iSeq, iEnum', Src.items, Nat.reduceAdd, reduceIte]
      rw [gcd_run h _ a b (by simp)]
      simp only [startD, List.map_cons, List.map_nil, List.length_cons, List.length_nil, List.replicate_succ, List.replicate_zero, List.cons_append, List.nil_append, List.append_nil, sSeq, sNext, sAsg, sExpr, sRet, sRetN, sIf, sPar, sAug, sFor, sNo, sSetF, RE.bind, RE.bindA, RA.bindA, RA.bind, RE.bindS, RS.bind, lift, mVar, mC, mBin, mUn, mCB, mCons, mNil, mTup, mLst, mLstC, mChain, mAnd, mOr, mNot, mIf, mTru, mCall, mFld, ar, gN, gNils, gConss, gT, List.getElem?_cons_zero, List.getElem?_cons_succ, List.set_cons_zero, List.set_cons_succ, fEqD_int, fNeD_int, fAdd_int, fSub_int, fLt_int, fLe_int, fGt_int, fGe_int, Nat.reduceSub, RSrc.bindS, RSrc.bind, RE.src, RA.src, iSeq, iEnum', Src.items, Nat.reduceAdd, reduceIte]
      exact dr_rt rfl
    · exact absurd rfl ne
  · exact absurd rfl ne
end K16

set_option Elab.async false
set_option linter.all false
set_option maxRecDepth 100000
namespace K16
open PySem PySem.Spec PyProof.Rows L2 Py
theorem big {n : Nat} (h : n < 2 ^ 4000) : ((n : Nat) : Int).natAbs < 2 ^ 8000 := Nat.lt_trans (by simpa using h) (Nat.pow_lt_pow_right (by decide) (by decide))
theorem bigs {n m : Nat} (h : n ≤ m) (c : m < 2 ^ 4000) : ((n : Nat) : Int).natAbs < 2 ^ 8000 := big (Nat.lt_of_le_of_lt h c)
theorem low_tN {n : Nat} (ms : List Nat) : (tN ms).low n = true := by simpa only [D.low] using lows_nats ms
def f_common_multiple : MF := fun ds h => match ds with | [.int a, .int b] => if 0 < a ∧ 0 < b ∧ a < 2 ^ 4000 ∧ b < 2 ^ 4000 then .ok (dN (Nat.lcm a.toNat b.toNat)) h else .no | _ => .no
theorem me_common_multiple : Meets' 2 2 (m_common_multiple f_common_divisor) f_common_multiple := by
  intro ds h hl lo bel ne
  unfold f_common_multiple at ne ⊢
  split at ne
  · next a b =>
    split at ne
    · next c =>
      obtain ⟨a, rfl⟩ := Int.eq_ofNat_of_zero_le (Int.le_of_lt c.1)
      obtain ⟨b, rfl⟩ := Int.eq_ofNat_of_zero_le (Int.le_of_lt c.2.1)
      have a0 : 0 < a := by omega
      have b0 : 0 < b := by omega
      have ab : a < 2 ^ 4000 := by have := c.2.2.1; exact_mod_cast this
      have bb : b < 2 ^ 4000 := by have := c.2.2.2; exact_mod_cast this
      have g0 : 0 < Nat.gcd a b := Nat.gcd_pos_of_pos_left _ a0
      have e1 : (Int.gcd (a : Int) (b : Int)) = Nat.gcd a b := rfl
      have p : 0 ≤ (a : Int) ∧ 0 ≤ (b : Int) := ⟨Int.natCast_nonneg _, Int.natCast_nonneg _⟩
      rw [if_pos c]
      simp only [m_common_multiple, f_common_divisor, p, e1, and_self, fDiv_sm h (i := (a : Int)) (j := ((Nat.gcd a b : Nat) : Int)) (by omega) (bigs (Nat.gcd_le_left b a0) ab), startD, List.map_cons, List.map_nil, List.length_cons, List.length_nil, List.replicate_succ, List.replicate_zero, List.cons_append, List.nil_append, List.append_nil, sSeq, sNext, sAsg, sExpr, sRet, sRetN, sIf, sPar, sAug, sFor, sNo, sSetF, RE.bind, RE.bindA, RA.bindA, RA.bind, RE.bindS, RS.bind, lift, mVar, mC, mBin, mUn, mCB, mCons, mNil, mTup, mLst, mLstC, mChain, mAnd, mOr, mNot, mIf, mTru, mCall, mFld, ar, gN, gNils, gConss, gT, List.getElem?_cons_zero, List.getElem?_cons_succ, List.set_cons_zero, List.set_cons_succ, fEqD_int, fNeD_int, fAdd_int, fSub_int, fLt_int, fLe_int, fGt_int, fGe_int, Nat.reduceSub, RSrc.bindS, RSrc.bind, RE.src, RA.src, iSeq, iEnum', Src.items, Nat.reduceAdd, reduceIte]
      rw [← Int.natCast_ediv]
      simp only [fMul_sm h (bigs (Nat.div_le_self a _) ab) (big bb), startD, List.map_cons, List.map_nil, List.length_cons, List.length_nil, List.replicate_succ, List.replicate_zero, List.cons_append, List.nil_append, List.append_nil, sSeq, sNext, sAsg, sExpr, sRet, sRetN, sIf, sPar, sAug, sFor, sNo, sSetF, RE.bind, RE.bindA, RA.bindA, RA.bind, RE.bindS, RS.bind, lift, mVar, mC, mBin, mUn, mCB, mCons, mNil, mTup, mLst, mLstC, mChain, mAnd, mOr, mNot, mIf, mTru, mCall, mFld, ar, gN, gNils, gConss, gT, List.getElem?_cons_zero, List.getElem?_cons_succ, List.set_cons_zero, List.set_cons_succ, fEqD_int, fNeD_int, fAdd_int, fSub_int, fLt_int, fLe_int, fGt_int, fGe_int, Nat.reduceSub, RSrc.bindS, RSrc.bind, RE.src, RA.src, iSeq, iEnum', Src.items, Nat.reduceAdd, reduceIte]
      rw [← Int.natCast_mul, Nat.div_mul_right_comm (Nat.gcd_dvd_left a b)]
      exact dr_rt rfl
    · exact absurd rfl ne
  · exact absurd rfl ne
def f_least_terms : MF := fun ds h => match ds with | [.int a, .int b] => if 0 ≤ a ∧ 0 < b ∧ b < 2 ^ 4000 then .ok (.tup [dN (a.toNat / Nat.gcd a.toNat b.toNat), dN (b.toNat / Nat.gcd a.toNat b.toNat)]) h else .no | _ => .no
theorem two_ok {n : Nat} (h : n ≤ 100) : n ≤ sizeLine := sz_of h
theorem me_least_terms : Meets' 2 3 (m_least_terms f_common_divisor) f_least_terms := by
  intro ds h hl lo bel ne
  unfold f_least_terms at ne ⊢
  split at ne
  · next a b =>
    split at ne
    · next c =>
      obtain ⟨a, rfl⟩ := Int.eq_ofNat_of_zero_le c.1
      obtain ⟨b, rfl⟩ := Int.eq_ofNat_of_zero_le (Int.le_of_lt c.2.1)
      have b0 : 0 < b := by omega
      have bb : b < 2 ^ 4000 := by have := c.2.2; exact_mod_cast this
      have g0 : 0 < Nat.gcd a b := Nat.gcd_pos_of_pos_right _ b0
      have gb : ((Nat.gcd a b : Nat) : Int).natAbs < 2 ^ 8000 := bigs (Nat.gcd_le_right a b0) bb
      have e1 : (Int.gcd (a : Int) (b : Int)) = Nat.gcd a b := rfl
      have p : 0 ≤ (a : Int) ∧ 0 ≤ (b : Int) := ⟨Int.natCast_nonneg _, Int.natCast_nonneg _⟩
      rw [if_pos c]
      simp only [m_least_terms, f_common_divisor, p, e1, and_self, fDiv_sm h (i := (a : Int)) (j := ((Nat.gcd a b : Nat) : Int)) (by omega) gb, fDiv_sm h (i := (b : Int)) (j := ((Nat.gcd a b : Nat) : Int)) (by omega) gb, startD, List.map_cons, List.map_nil, List.length_cons, List.length_nil, List.replicate_succ, List.replicate_zero, List.cons_append, List.nil_append, List.append_nil, sSeq, sNext, sAsg, sExpr, sRet, sRetN, sIf, sPar, sAug, sFor, sNo, sSetF, RE.bind, RE.bindA, RA.bindA, RA.bind, RE.bindS, RS.bind, lift, mVar, mC, mBin, mUn, mCB, mCons, mNil, mTup, mLst, mLstC, mChain, mAnd, mOr, mNot, mIf, mTru, mCall, mFld, ar, gN, gNils, gConss, gT, List.getElem?_cons_zero, List.getElem?_cons_succ, List.set_cons_zero, List.set_cons_succ, fEqD_int, fNeD_int, fAdd_int, fSub_int, fLt_int, fLe_int, fGt_int, fGe_int, Nat.reduceSub, RSrc.bindS, RSrc.bind, RE.src, RA.src, iSeq, iEnum', Src.items, Nat.reduceAdd, reduceIte]
      rw [if_pos (two_ok (by decide))]
      simp only [← Int.natCast_ediv, Int.toNat_natCast]
      exact dr_rt rfl
    · exact absurd rfl ne
  · exact absurd rfl ne
/-- numbers of marks that hands may have -/
def okMs (ms : List Nat) : Bool := decide (2 ≤ ms.length) && decide (ms.length ≤ 8) && ms.all fun m => decide (1 ≤ m) && decide (m ≤ 60)
theorem okMs_mem {ms : List Nat} (h : okMs ms = true) : ∀ m ∈ ms, 1 ≤ m ∧ m ≤ 60 := by
  simp only [okMs, Bool.and_eq_true, List.all_eq_true, decide_eq_true_eq] at h
  exact h.2
theorem okMs_len {ms : List Nat} (h : okMs ms = true) : 2 ≤ ms.length ∧ ms.length ≤ 8 := by
  simp only [okMs, Bool.and_eq_true, decide_eq_true_eq] at h
  exact h.1
def f_check_marks : MF := fun ds h => match ds with | [.tup l] => (match natsOf l with | some ms => if okMs ms = true then .ok (tN ms) h else .no | none => .no) | _ => .no
theorem me_check_marks : Meets' 1 3 (m_check_marks f_is_sequence f_is_within) f_check_marks := by
  intro ds h hl lo bel ne
  unfold f_check_marks at ne ⊢
  split at ne
  · next l =>
    split at ne
    · next ms e =>
      split at ne
      · next c =>
        obtain rfl := natsOf_eq e
        have hm := okMs_mem c
        have hn := okMs_len c
        simp only [e, c, m_check_marks, f_is_sequence, seqOf, cLen, Option.map_some, List.length_map, Bool.not_true, fLe_int, startD, List.map_cons, List.map_nil, List.length_cons, List.length_nil, List.replicate_succ, List.replicate_zero, List.cons_append, List.nil_append, List.append_nil, sSeq, sNext, sAsg, sExpr, sRet, sRetN, sIf, sPar, sAug, sFor, sNo, sSetF, RE.bind, RE.bindA, RA.bindA, RA.bind, RE.bindS, RS.bind, lift, mVar, mC, mBin, mUn, mCB, mCons, mNil, mTup, mLst, mLstC, mChain, mAnd, mOr, mNot, mIf, mTru, mCall, mFld, ar, gN, gNils, gConss, gT, List.getElem?_cons_zero, List.getElem?_cons_succ, List.set_cons_zero, List.set_cons_succ, fEqD_int, fNeD_int, fAdd_int, fSub_int, fLt_int, fLe_int, fGt_int, fGe_int, Nat.reduceSub, RSrc.bindS, RSrc.bind, RE.src, RA.src, iSeq, iEnum', Src.items, Nat.reduceAdd, reduceIte]
        have q1 : (2 : Int) ≤ (ms.length : Int) := by omega
        have q2 : (ms.length : Int) ≤ 8 := by omega
        simp only [q1, q2, decide_true, Bool.not_true, srcOf, Option.map_some, startD, List.map_cons, List.map_nil, List.length_cons, List.length_nil, List.replicate_succ, List.replicate_zero, List.cons_append, List.nil_append, List.append_nil, sSeq, sNext, sAsg, sExpr, sRet, sRetN, sIf, sPar, sAug, sFor, sNo, sSetF, RE.bind, RE.bindA, RA.bindA, RA.bind, RE.bindS, RS.bind, lift, mVar, mC, mBin, mUn, mCB, mCons, mNil, mTup, mLst, mLstC, mChain, mAnd, mOr, mNot, mIf, mTru, mCall, mFld, ar, gN, gNils, gConss, gT, List.getElem?_cons_zero, List.getElem?_cons_succ, List.set_cons_zero, List.set_cons_succ, fEqD_int, fNeD_int, fAdd_int, fSub_int, fLt_int, fLe_int, fGt_int, fGe_int, Nat.reduceSub, RSrc.bindS, RSrc.bind, RE.src, RA.src, iSeq, iEnum', Src.items, Nat.reduceAdd, reduceIte]
        obtain ⟨s', h', z, v, w, ez, eh⟩ : ∃ s' h', lp_check_marks_0 f_is_sequence f_is_within [some (tN ms), none, none] h = .nx s' h' ∧ ∃ v w, s' = [some (tN ms), v, w] ∧ h' = h :=
          sFor_all (x := .enum (.fix (ms.map dN))) (l := pairs 0 (ms.map dN)) (fun i s h' => ∃ v w, s = [some (tN ms), v, w] ∧ h' = h) rfl ⟨none, none, rfl, rfl⟩ (fun i s h' _ => rfl) (fun i d s h' ⟨v, w, es, eh⟩ ed => by
            subst es eh
            obtain ⟨x, ex, rfl⟩ := pairs_get ed
            rw [List.getElem?_map] at ex
            obtain ⟨m, em, rfl⟩ := Option.map_eq_some_iff.mp ex
            have hb := hm m (List.mem_of_getElem? em)
            refine ⟨_, _, _, rfl, .inl ?_, some (.int ((0 + i : Nat) : Int)), some (dN m), rfl, rfl⟩
            have b1 : (1 : Int) ≤ (m : Int) := by omega
            have b2 : (m : Int) ≤ 60 := by omega
            simp only [f_is_within, b1, b2, decide_true, Bool.and_true, Bool.not_true, startD, List.map_cons, List.map_nil, List.length_cons, List.length_nil, List.replicate_succ, List.replicate_zero, List.cons_append, List.nil_append, List.append_nil, sSeq, sNext, sAsg, sExpr, sRet, sRetN, sIf, sPar, sAug, sFor, sNo, sSetF, RE.bind, RE.bindA, RA.bindA, RA.bind, RE.bindS, RS.bind, lift, mVar, mC, mBin, mUn, mCB, mCons, mNil, mTup, mLst, mLstC, mChain, mAnd, mOr, mNot, mIf, mTru, mCall, mFld, ar, gN, gNils, gConss, gT, List.getElem?_cons_zero, List.getElem?_cons_succ, List.set_cons_zero, List.set_cons_succ, fEqD_int, fNeD_int, fAdd_int, fSub_int, fLt_int, fLe_int, fGt_int, fGe_int, Nat.reduceSub, RSrc.bindS, RSrc.bind, RE.src, RA.src, iSeq, iEnum', Src.items, Nat.reduceAdd, reduceIte])
        subst ez eh
        simp only [z, cTuple, startD, List.map_cons, List.map_nil, List.length_cons, List.length_nil, List.replicate_succ, List.replicate_zero, List.cons_append, List.nil_append, List.append_nil, sSeq, sNext, sAsg, sExpr, sRet, sRetN, sIf, sPar, sAug, sFor, sNo, sSetF, RE.bind, RE.bindA, RA.bindA, RA.bind, RE.bindS, RS.bind, lift, mVar, mC, mBin, mUn, mCB, mCons, mNil, mTup, mLst, mLstC, mChain, mAnd, mOr, mNot, mIf, mTru, mCall, mFld, ar, gN, gNils, gConss, gT, List.getElem?_cons_zero, List.getElem?_cons_succ, List.set_cons_zero, List.set_cons_succ, fEqD_int, fNeD_int, fAdd_int, fSub_int, fLt_int, fLe_int, fGt_int, fGe_int, Nat.reduceSub, RSrc.bindS, RSrc.bind, RE.src, RA.src, iSeq, iEnum', Src.items, Nat.reduceAdd, reduceIte]
        exact dr_rt (low_tN ms)
      · exact absurd rfl ne
    · exact absurd rfl ne
  · exact absurd rfl ne
end K16

set_option Elab.async false
set_option linter.all false
set_option maxRecDepth 100000
set_option exponentiation.threshold 10000
namespace K16
open PySem PySem.Spec PyProof.Rows L2 Py
theorem at_end (h : CH) (c : Cell) : (h ++ [c])[h.length]? = some c := by simp
theorem set_end (h : CH) (c d : Cell) : (h ++ [c]).set h.length d = h ++ [d] := by simp
theorem meets_init {c n N : Nat} {m : MS} {mi : MI} (nx : ∀ ds h a b e, mi ds h ≠ .ex a b e)
    (H : ∀ (h0 : CH) (ag : List D) (fs : Xfs), ag.length = n → D.lows (h0.length + 1) ag = true → mi ag h0 = .ok fs → ∃ s j, m (startD N (.cell h0.length :: ag)) (h0 ++ [.ob c []]) = .nx s (h0 ++ [.ob c fs] ++ j) ∧ D.lows (h0.length + 1) (fs.map (·.2)) = true) : Meets' (n + 1) N m (mfInit c mi) := by
  intro ds h hl lo bel ne
  unfold mfInit at ne ⊢
  split at ne
  · next k ag =>
    split at ne
    · next hk =>
      split at ne
      · next c' e1 =>
        split at ne
        · next ec =>
          subst ec
          have eh : h = h.take k ++ [.ob c' []] := by
            have z := List.take_append_drop k h
            rw [List.drop_eq_getElem_cons (by omega), List.drop_of_length_le (by omega)] at z
            have z2 : h[k]'(by omega) = .ob c' [] := by
              rw [List.getElem?_eq_getElem (by omega)] at e1
              exact Option.some.inj e1
            rw [z2] at z
            exact z.symm
          have lk : (h.take k).length = k := by rw [List.length_take]; omega
          simp only [hk, e1, if_true]
          generalize hmi : mi ag (h.take k) = r at ne ⊢
          cases r with
          | ok fs =>
            obtain ⟨s, j, z1, z2⟩ := H (h.take k) ag fs (by simpa using hl) (by
              simp only [D.lows, Bool.and_eq_true] at lo
              rw [lk, hk]; exact lo.2) hmi
            rw [lk, ← eh] at z1
            rw [z1]
            refine ⟨rfl, ⟨j, rfl⟩, by simp [lk]; omega, fun cc mc => ?_⟩
            rcases List.mem_append.mp mc with q | q
            · exact .inl (List.mem_of_mem_take q)
            · rw [List.mem_singleton.mp q]
              refine .inr ?_
              simp only [Cell.low, Cell.vals, List.length_append, List.length_cons, List.length_nil]
              exact z2
          | ex a b e => exact absurd hmi (nx _ _ _ _ _)
          | no => exact absurd rfl ne
        · exact absurd rfl ne
      · exact absurd rfl ne
    · exact absurd rfl ne
  · exact absurd rfl ne
abbrev hD (ms : List Nat) : D := .obj cHands ["marks", "many"] [tN ms, dN ms.length]
def hOf : D → Option (List Nat)
  | .obj c ns [.tup l, .int k] => (match natsOf l with
    | some ms => if c = cHands ∧ ns = (["marks", "many"] : List Str) ∧ okMs ms = true ∧ k = (ms.length : Int) then some ms else none
    | none => none)
  | _ => none
theorem hOf_eq {d : D} {ms : List Nat} (e : hOf d = some ms) : d = hD ms ∧ okMs ms = true := by
  unfold hOf at e
  split at e
  · split at e
    · next l k ms' e1 =>
      split at e
      · next c =>
        cases e
        obtain ⟨c1, c2, c3, c4⟩ := c
        rw [c1, c2, c4, natsOf_eq e1]
        exact ⟨rfl, c3⟩
      · cases e
    · cases e
  · cases e
theorem hOf_hD {ms : List Nat} (c : okMs ms = true) : hOf (hD ms) = some ms := by
  simp [hOf, natsOf_map, c]
theorem fld_marks (h : CH) (ms : List Nat) : fieldOf h cs_marks "marks" (hD ms) = some (tN ms) := by
  simp [fieldOf, cs_marks, List.lookup]
theorem fld_many (h : CH) (ms : List Nat) : fieldOf h cs_many "many" (hD ms) = some (dN ms.length) := by
  simp only [fieldOf, cs_many, List.zip_cons_cons, List.zip_nil_right, List.mem_singleton, if_true]
  have q : (("many" : Str) == ("marks" : Str)) = false := by decide +kernel
  simp [List.lookup, q]
theorem low_hD {n : Nat} (ms : List Nat) : (hD ms).low n = true := by
  simp only [D.low, D.lows, lows_nats, Bool.and_self]
def i_Hands : MI := fun ds h => match ds with | [.tup l] => (match natsOf l with | some ms => if okMs ms = true then .ok [("marks", tN ms), ("many", dN ms.length)] else .no | none => .no) | _ => .no
theorem me_Hands_init : Meets' 2 2 (m_Hands_init f_check_marks) (mfInit cHands i_Hands) := by
  refine meets_init (fun ds h a b e z => ?_) fun h0 ag fs hl lo e => ?_
  · unfold i_Hands at z
    split at z
    · split at z
      · split at z <;> cases z
      · cases z
    · cases z
  · unfold i_Hands at e
    split at e
    · split at e
      · next l ms e1 =>
        split at e
        · next c =>
          cases e
          obtain rfl := natsOf_eq e1
          have q : (("marks" : Str) == ("many" : Str)) = false := by decide +kernel
          have q2 : ¬ (("marks" : Str) = ("many" : Str)) := by decide +kernel
          refine ⟨[some (.cell h0.length), some (tN ms)], [], ?_, by simp [D.lows, D.low, lows_nats]⟩
          simp only [m_Hands_init, f_check_marks, natsOf_map, c, cs_marks, cs_many, at_end, set_end, fieldOf, putD, List.lookup, List.mem_singleton, true_and, beq_self_eq_true, cLen, seqOf, Option.map_some, List.length_map, q2, Nat.reduceLT, List.append_nil, startD, List.map_cons, List.map_nil, List.length_cons, List.length_nil, List.replicate_succ, List.replicate_zero, List.cons_append, List.nil_append, List.append_nil, sSeq, sNext, sAsg, sExpr, sRet, sRetN, sIf, sPar, sAug, sFor, sNo, sSetF, RE.bind, RE.bindA, RA.bindA, RA.bind, RE.bindS, RS.bind, lift, mVar, mC, mBin, mUn, mCB, mCons, mNil, mTup, mLst, mLstC, mChain, mAnd, mOr, mNot, mIf, mTru, mCall, mFld, ar, gN, gNils, gConss, gT, List.getElem?_cons_zero, List.getElem?_cons_succ, List.set_cons_zero, List.set_cons_succ, fEqD_int, fNeD_int, fAdd_int, fSub_int, fLt_int, fLe_int, fGt_int, fGe_int, Nat.reduceSub, RSrc.bindS, RSrc.bind, RE.src, RA.src, iSeq, iEnum', Src.items, Nat.reduceAdd, reduceIte]
        · cases e
      · cases e
    · cases e
theorem b60 : 60 < 2 ^ 4000 := by
  have : 60 < 2 ^ 64 := by decide
  exact Nat.lt_trans this (Nat.pow_lt_pow_right (by decide) (by decide))
def lcmL (ms : List Nat) : Nat := ms.foldl Nat.lcm 1
def sumL (ms : List Nat) : Nat := (ms.map fun m => lcmL ms / m).sum
theorem lcm_take {ms : List Nat} (h : ∀ m ∈ ms, 1 ≤ m ∧ m ≤ 60) : ∀ i, i ≤ ms.length → 0 < (ms.take i).foldl Nat.lcm 1 ∧ (ms.take i).foldl Nat.lcm 1 ≤ 60 ^ i
  | 0, _ => by simp
  | i + 1, le => by
    obtain ⟨a, b⟩ := lcm_take h i (by omega)
    have hi : i < ms.length := by omega
    rw [List.take_succ, List.getElem?_eq_getElem hi, Option.toList_some, List.foldl_append]
    have hm := h _ (List.getElem_mem hi)
    simp only [List.foldl_cons, List.foldl_nil]
    refine ⟨Nat.lcm_pos a hm.1, ?_⟩
    have l : Nat.lcm ((ms.take i).foldl Nat.lcm 1) ms[i] ≤ ((ms.take i).foldl Nat.lcm 1) * ms[i] := Nat.div_le_self _ _
    rw [Nat.pow_succ]
    exact Nat.le_trans l (Nat.mul_le_mul b hm.2)
theorem pow60 {i : Nat} (h : i ≤ 8) : 60 ^ i < 2 ^ 4000 := Nat.lt_of_le_of_lt (Nat.pow_le_pow_right (by decide) h) (by
  have : 60 ^ 8 < 2 ^ 64 := by decide
  exact Nat.lt_trans this (Nat.pow_lt_pow_right (by decide) (by decide)))
theorem lcmL_ok {ms : List Nat} (c : okMs ms = true) : 0 < lcmL ms ∧ lcmL ms < 2 ^ 4000 := by
  obtain ⟨a, b⟩ := lcm_take (okMs_mem c) ms.length (Nat.le_refl _)
  rw [List.take_length] at a b
  exact ⟨a, Nat.lt_of_le_of_lt b (pow60 (okMs_len c).2)⟩
def f_sum_of_parts : MF := fun ds h => match ds with | [.tup l] => (match natsOf l with | some ms => if okMs ms = true then .ok (.tup [dN (sumL ms / Nat.gcd (sumL ms) (lcmL ms)), dN (lcmL ms / Nat.gcd (sumL ms) (lcmL ms))]) h else .no | none => .no) | _ => .no
theorem me_sum_of_parts : Meets' 1 3 (m_sum_of_parts f_common_multiple f_least_terms) f_sum_of_parts := by
  intro ds h hl lo bel ne
  unfold f_sum_of_parts at ne ⊢
  split at ne
  · next l =>
    split at ne
    · next ms e =>
      split at ne
      · next c =>
        obtain rfl := natsOf_eq e
        have hm := okMs_mem c
        have hn := okMs_len c
        obtain ⟨L0, Lb⟩ := lcmL_ok c
        simp only [e, c, m_sum_of_parts, startD, List.map_cons, List.map_nil, List.length_cons, List.length_nil, List.replicate_succ, List.replicate_zero, List.cons_append, List.nil_append, List.append_nil, sSeq, sNext, sAsg, sExpr, sRet, sRetN, sIf, sPar, sAug, sFor, sNo, sSetF, RE.bind, RE.bindA, RA.bindA, RA.bind, RE.bindS, RS.bind, lift, mVar, mC, mBin, mUn, mCB, mCons, mNil, mTup, mLst, mLstC, mChain, mAnd, mOr, mNot, mIf, mTru, mCall, mFld, ar, gN, gNils, gConss, gT, List.getElem?_cons_zero, List.getElem?_cons_succ, List.set_cons_zero, List.set_cons_succ, fEqD_int, fNeD_int, fAdd_int, fSub_int, fLt_int, fLe_int, fGt_int, fGe_int, Nat.reduceSub, RSrc.bindS, RSrc.bind, RE.src, RA.src, iSeq, iEnum', Src.items, Nat.reduceAdd, reduceIte]
        obtain ⟨s', h', z, v, ez, eh⟩ : ∃ s' h', lp_sum_of_parts_0 f_common_multiple f_least_terms [some (tN ms), some (.int 1), none] h = .nx s' h' ∧ ∃ v, s' = [some (tN ms), some (dN ((ms.take (ms.map dN).length).foldl Nat.lcm 1)), v] ∧ h' = h :=
          sFor_all (x := .fix (ms.map dN)) (l := ms.map dN) (fun i s h' => ∃ v, s = [some (tN ms), some (dN ((ms.take i).foldl Nat.lcm 1)), v] ∧ h' = h) rfl ⟨none, rfl, rfl⟩ (fun i s h' _ => rfl) (fun i d s h' ⟨v, es, eh⟩ ed => by
            subst es eh
            rw [List.getElem?_map] at ed
            obtain ⟨m, em, rfl⟩ := Option.map_eq_some_iff.mp ed
            obtain ⟨hi, ei⟩ := List.getElem?_eq_some_iff.mp em
            have hb := hm m (List.mem_of_getElem? em)
            obtain ⟨a0, a1⟩ := lcm_take hm i (by omega)
            have a2 := Nat.lt_of_le_of_lt a1 (pow60 (i := i) (by omega))
            refine ⟨_, _, _, rfl, .inl ?_, some (dN m), rfl, rfl⟩
            have b1 : (0 : Int) < (m : Int) := by omega
            have b3 : (m : Int) < 2 ^ 4000 := by
              have : m < 2 ^ 4000 := Nat.lt_of_le_of_lt hb.2 b60
              exact_mod_cast this
            have b4 : (0 : Int) < (((ms.take i).foldl Nat.lcm 1 : Nat) : Int) := by omega
            have b5 : (((ms.take i).foldl Nat.lcm 1 : Nat) : Int) < 2 ^ 4000 := by exact_mod_cast a2
            simp only [f_common_multiple, b1, b3, b4, b5, and_self, Int.toNat_natCast, startD, List.map_cons, List.map_nil, List.length_cons, List.length_nil, List.replicate_succ, List.replicate_zero, List.cons_append, List.nil_append, List.append_nil, sSeq, sNext, sAsg, sExpr, sRet, sRetN, sIf, sPar, sAug, sFor, sNo, sSetF, RE.bind, RE.bindA, RA.bindA, RA.bind, RE.bindS, RS.bind, lift, mVar, mC, mBin, mUn, mCB, mCons, mNil, mTup, mLst, mLstC, mChain, mAnd, mOr, mNot, mIf, mTru, mCall, mFld, ar, gN, gNils, gConss, gT, List.getElem?_cons_zero, List.getElem?_cons_succ, List.set_cons_zero, List.set_cons_succ, fEqD_int, fNeD_int, fAdd_int, fSub_int, fLt_int, fLe_int, fGt_int, fGe_int, Nat.reduceSub, RSrc.bindS, RSrc.bind, RE.src, RA.src, iSeq, iEnum', Src.items, Nat.reduceAdd, reduceIte]
            rw [List.take_succ, em, Option.toList_some, List.foldl_append]
            rfl)
        rw [List.length_map, List.take_length] at ez
        subst ez eh
        have lc : lc_sum_of_parts_0 f_common_multiple f_least_terms [some (tN ms), some (dN (lcmL ms)), v] h' = .ok (.lst (ms.map fun m => dN (lcmL ms / m))) h' :=
          mLc_all (x := .fix (ms.map dN)) dN (fun m => dN (lcmL ms / m)) rfl rfl (sz_of hn.2) fun m mm => by
            have hb := hm m mm
            refine ⟨_, rfl, ?_⟩
            simp only [wipeS, fDiv_sm h' (i := (lcmL ms : Int)) (j := (m : Int)) (by omega) (bigs hb.2 b60), startD, List.map_cons, List.map_nil, List.length_cons, List.length_nil, List.replicate_succ, List.replicate_zero, List.cons_append, List.nil_append, List.append_nil, sSeq, sNext, sAsg, sExpr, sRet, sRetN, sIf, sPar, sAug, sFor, sNo, sSetF, RE.bind, RE.bindA, RA.bindA, RA.bind, RE.bindS, RS.bind, lift, mVar, mC, mBin, mUn, mCB, mCons, mNil, mTup, mLst, mLstC, mChain, mAnd, mOr, mNot, mIf, mTru, mCall, mFld, ar, gN, gNils, gConss, gT, List.getElem?_cons_zero, List.getElem?_cons_succ, List.set_cons_zero, List.set_cons_succ, fEqD_int, fNeD_int, fAdd_int, fSub_int, fLt_int, fLe_int, fGt_int, fGe_int, Nat.reduceSub, RSrc.bindS, RSrc.bind, RE.src, RA.src, iSeq, iEnum', Src.items, Nat.reduceAdd, reduceIte]
            simp
        have em : (ms.map fun m => dN (lcmL ms / m)) = (ms.map fun m => lcmL ms / m).map dN := by
          rw [List.map_map]; rfl
        rw [em] at lc
        have lc2 : List.foldl Nat.lcm 1 ms = lcmL ms := rfl
        simp only [z, lc2, lc, startD, List.map_cons, List.map_nil, List.length_cons, List.length_nil, List.replicate_succ, List.replicate_zero, List.cons_append, List.nil_append, List.append_nil, sSeq, sNext, sAsg, sExpr, sRet, sRetN, sIf, sPar, sAug, sFor, sNo, sSetF, RE.bind, RE.bindA, RA.bindA, RA.bind, RE.bindS, RS.bind, lift, mVar, mC, mBin, mUn, mCB, mCons, mNil, mTup, mLst, mLstC, mChain, mAnd, mOr, mNot, mIf, mTru, mCall, mFld, ar, gN, gNils, gConss, gT, List.getElem?_cons_zero, List.getElem?_cons_succ, List.set_cons_zero, List.set_cons_succ, fEqD_int, fNeD_int, fAdd_int, fSub_int, fLt_int, fLe_int, fGt_int, fGe_int, Nat.reduceSub, RSrc.bindS, RSrc.bind, RE.src, RA.src, iSeq, iEnum', Src.items, Nat.reduceAdd, reduceIte]
        have b6 : (lcmL ms : Int) < 2 ^ 4000 := by exact_mod_cast Lb
        have b7 : (0 : Int) < (lcmL ms : Int) := by omega
        have b8 : (0 : Int) ≤ (((ms.map fun m => lcmL ms / m).sum : Nat) : Int) := Int.natCast_nonneg _
        simp only [cSum, lsOf, lstOf, intsOf_nats, sum_nats, Option.map_some, f_least_terms, b6, b7, b8, and_self, Int.toNat_natCast, startD, List.map_cons, List.map_nil, List.length_cons, List.length_nil, List.replicate_succ, List.replicate_zero, List.cons_append, List.nil_append, List.append_nil, sSeq, sNext, sAsg, sExpr, sRet, sRetN, sIf, sPar, sAug, sFor, sNo, sSetF, RE.bind, RE.bindA, RA.bindA, RA.bind, RE.bindS, RS.bind, lift, mVar, mC, mBin, mUn, mCB, mCons, mNil, mTup, mLst, mLstC, mChain, mAnd, mOr, mNot, mIf, mTru, mCall, mFld, ar, gN, gNils, gConss, gT, List.getElem?_cons_zero, List.getElem?_cons_succ, List.set_cons_zero, List.set_cons_succ, fEqD_int, fNeD_int, fAdd_int, fSub_int, fLt_int, fLe_int, fGt_int, fGe_int, Nat.reduceSub, RSrc.bindS, RSrc.bind, RE.src, RA.src, iSeq, iEnum', Src.items, Nat.reduceAdd, reduceIte]
        exact dr_rt rfl
      · exact absurd rfl ne
    · exact absurd rfl ne
  · exact absurd rfl ne
end K16

set_option Elab.async false
set_option linter.all false
set_option maxRecDepth 100000
set_option exponentiation.threshold 10000
namespace K16
open PySem PySem.Spec PyProof.Rows L2 Py
abbrev telT (ms : List Nat) : D := .tup [dN (sumL ms / Nat.gcd (sumL ms) (lcmL ms)), dN (lcmL ms / Nat.gcd (sumL ms) (lcmL ms))]
theorem tel_iff {ms : List Nat} : sumL ms / Nat.gcd (sumL ms) (lcmL ms) ≤ lcmL ms / Nat.gcd (sumL ms) (lcmL ms) ↔ sumL ms ≤ lcmL ms := by
  refine ⟨fun h => ?_, fun h => Nat.div_le_div_right h⟩
  have a := Nat.div_mul_cancel (Nat.gcd_dvd_left (sumL ms) (lcmL ms))
  have b := Nat.div_mul_cancel (Nat.gcd_dvd_right (sumL ms) (lcmL ms))
  have c := Nat.mul_le_mul_right (Nat.gcd (sumL ms) (lcmL ms)) h
  omega
def f_share : MF := fun ds h => match ds with | [d] => (match hOf d with | some ms => .ok (telT ms) h | none => .no) | _ => .no
theorem me_share : Meets' 1 1 (m_share f_sum_of_parts) f_share := by
  intro ds h hl lo bel ne
  unfold f_share at ne ⊢
  split at ne
  · next d =>
    split at ne
    · next ms e =>
      obtain ⟨rfl, c⟩ := hOf_eq e
      simp only [e, m_share, fld_marks, f_sum_of_parts, natsOf_map, c, startD, List.map_cons, List.map_nil, List.length_cons, List.length_nil, List.replicate_succ, List.replicate_zero, List.cons_append, List.nil_append, List.append_nil, sSeq, sNext, sAsg, sExpr, sRet, sRetN, sIf, sPar, sAug, sFor, sNo, sSetF, RE.bind, RE.bindA, RA.bindA, RA.bind, RE.bindS, RS.bind, lift, mVar, mC, mBin, mUn, mCB, mCons, mNil, mTup, mLst, mLstC, mChain, mAnd, mOr, mNot, mIf, mTru, mCall, mFld, ar, gN, gNils, gConss, gT, List.getElem?_cons_zero, List.getElem?_cons_succ, List.set_cons_zero, List.set_cons_succ, fEqD_int, fNeD_int, fAdd_int, fSub_int, fLt_int, fLe_int, fGt_int, fGe_int, Nat.reduceSub, RSrc.bindS, RSrc.bind, RE.src, RA.src, iSeq, iEnum', Src.items, Nat.reduceAdd, reduceIte]
      exact dr_rt rfl
    · exact absurd rfl ne
  · exact absurd rfl ne
def f_need_telling : MF := fun ds h => match ds with | [d] => (match hOf d with | some ms => if sumL ms ≤ lcmL ms then .ok (hD ms) h else .no | none => .no) | _ => .no
theorem me_need_telling : Meets' 1 3 (m_need_telling f_share) f_need_telling := by
  intro ds h hl lo bel ne
  unfold f_need_telling at ne ⊢
  split at ne
  · next d =>
    split at ne
    · next ms e =>
      split at ne
      · next t =>
        obtain ⟨rfl, c⟩ := hOf_eq e
        have t2 := tel_iff.mpr t
        have t3 : ¬ (((lcmL ms / Nat.gcd (sumL ms) (lcmL ms) : Nat) : Int) < ((sumL ms / Nat.gcd (sumL ms) (lcmL ms) : Nat) : Int)) := by omega
        simp only [e, t, m_need_telling, f_share, t3, decide_false, startD, List.map_cons, List.map_nil, List.length_cons, List.length_nil, List.replicate_succ, List.replicate_zero, List.cons_append, List.nil_append, List.append_nil, sSeq, sNext, sAsg, sExpr, sRet, sRetN, sIf, sPar, sAug, sFor, sNo, sSetF, RE.bind, RE.bindA, RA.bindA, RA.bind, RE.bindS, RS.bind, lift, mVar, mC, mBin, mUn, mCB, mCons, mNil, mTup, mLst, mLstC, mChain, mAnd, mOr, mNot, mIf, mTru, mCall, mFld, ar, gN, gNils, gConss, gT, List.getElem?_cons_zero, List.getElem?_cons_succ, List.set_cons_zero, List.set_cons_succ, fEqD_int, fNeD_int, fAdd_int, fSub_int, fLt_int, fLe_int, fGt_int, fGe_int, Nat.reduceSub, RSrc.bindS, RSrc.bind, RE.src, RA.src, iSeq, iEnum', Src.items, Nat.reduceAdd, reduceIte]
        exact dr_rt (low_hD ms)
      · exact absurd rfl ne
    · exact absurd rfl ne
  · exact absurd rfl ne
def f_check_story : MF := fun ds h => match ds with
  | [d, v] => (match hOf d, seqF v with
    | some ms, some l => (match natsOf l with
      | some st => if st.length ≤ 10000 ∧ (∀ x ∈ st, x < ms.length) then .ok (tN st) h else .no
      | none => .no)
    | _, _ => .no)
  | _ => .no
theorem me_check_story : Meets' 2 4 (m_check_story f_is_sequence f_is_below) f_check_story := by
  intro ds h hl lo bel ne
  unfold f_check_story at ne ⊢
  split at ne
  · next d v =>
    split at ne
    · next ms l e1 e2 =>
      split at ne
      · next st e3 =>
        split at ne
        · next c =>
          obtain ⟨rfl, cm⟩ := hOf_eq e1
          obtain rfl := natsOf_eq e3
          obtain ⟨s', h', z, a, b, ez, eh⟩ : ∃ s' h', lp_check_story_0 f_is_sequence f_is_below [some (hD ms), some v, none, none] h = .nx s' h' ∧ ∃ a b, s' = [some (hD ms), some v, a, b] ∧ h' = h :=
            sFor_all (x := .enum (.fix (st.map dN))) (l := pairs 0 (st.map dN)) (fun i s h' => ∃ a b, s = [some (hD ms), some v, a, b] ∧ h' = h) (by simp only [seqF_src e2, Option.map_some, startD, List.map_cons, List.map_nil, List.length_cons, List.length_nil, List.replicate_succ, List.replicate_zero, List.cons_append, List.nil_append, List.append_nil, sSeq, sNext, sAsg, sExpr, sRet, sRetN, sIf, sPar, sAug, sFor, sNo, sSetF, RE.bind, RE.bindA, RA.bindA, RA.bind, RE.bindS, RS.bind, lift, mVar, mC, mBin, mUn, mCB, mCons, mNil, mTup, mLst, mLstC, mChain, mAnd, mOr, mNot, mIf, mTru, mCall, mFld, ar, gN, gNils, gConss, gT, List.getElem?_cons_zero, List.getElem?_cons_succ, List.set_cons_zero, List.set_cons_succ, fEqD_int, fNeD_int, fAdd_int, fSub_int, fLt_int, fLe_int, fGt_int, fGe_int, Nat.reduceSub, RSrc.bindS, RSrc.bind, RE.src, RA.src, iSeq, iEnum', Src.items, Nat.reduceAdd, reduceIte]) ⟨none, none, rfl, rfl⟩ (fun i s h' _ => rfl) (fun i d s h' ⟨a, b, es, eh⟩ ed => by
              subst es eh
              obtain ⟨x, ex, rfl⟩ := pairs_get ed
              rw [List.getElem?_map] at ex
              obtain ⟨m, em, rfl⟩ := Option.map_eq_some_iff.mp ex
              have hb := c.2 m (List.mem_of_getElem? em)
              refine ⟨_, _, _, rfl, .inl ?_, some (.int ((0 + i : Nat) : Int)), some (dN m), rfl, rfl⟩
              have b1 : (0 : Int) ≤ (m : Int) := Int.natCast_nonneg _
              have b2 : (m : Int) < (ms.length : Int) := by omega
              simp only [fld_many, f_is_below, b1, b2, decide_true, Bool.and_true, Bool.not_true, startD, List.map_cons, List.map_nil, List.length_cons, List.length_nil, List.replicate_succ, List.replicate_zero, List.cons_append, List.nil_append, List.append_nil, sSeq, sNext, sAsg, sExpr, sRet, sRetN, sIf, sPar, sAug, sFor, sNo, sSetF, RE.bind, RE.bindA, RA.bindA, RA.bind, RE.bindS, RS.bind, lift, mVar, mC, mBin, mUn, mCB, mCons, mNil, mTup, mLst, mLstC, mChain, mAnd, mOr, mNot, mIf, mTru, mCall, mFld, ar, gN, gNils, gConss, gT, List.getElem?_cons_zero, List.getElem?_cons_succ, List.set_cons_zero, List.set_cons_succ, fEqD_int, fNeD_int, fAdd_int, fSub_int, fLt_int, fLe_int, fGt_int, fGe_int, Nat.reduceSub, RSrc.bindS, RSrc.bind, RE.src, RA.src, iSeq, iEnum', Src.items, Nat.reduceAdd, reduceIte])
          subst ez eh
          have n1 : ¬ ((10000 : Int) < (st.length : Int)) := by have := c.1; omega
          simp only [e1, e2, e3, if_pos c, m_check_story, f_is_sequence, seqF_seq e2, seqF_len e2, seqF_tup e2, z, n1, List.length_map, decide_false, Bool.not_true, and_self, implies_true, startD, List.map_cons, List.map_nil, List.length_cons, List.length_nil, List.replicate_succ, List.replicate_zero, List.cons_append, List.nil_append, List.append_nil, sSeq, sNext, sAsg, sExpr, sRet, sRetN, sIf, sPar, sAug, sFor, sNo, sSetF, RE.bind, RE.bindA, RA.bindA, RA.bind, RE.bindS, RS.bind, lift, mVar, mC, mBin, mUn, mCB, mCons, mNil, mTup, mLst, mLstC, mChain, mAnd, mOr, mNot, mIf, mTru, mCall, mFld, ar, gN, gNils, gConss, gT, List.getElem?_cons_zero, List.getElem?_cons_succ, List.set_cons_zero, List.set_cons_succ, fEqD_int, fNeD_int, fAdd_int, fSub_int, fLt_int, fLe_int, fGt_int, fGe_int, Nat.reduceSub, RSrc.bindS, RSrc.bind, RE.src, RA.src, iSeq, iEnum', Src.items, Nat.reduceAdd, reduceIte]
          exact dr_rt (low_tN st)
        · exact absurd rfl ne
      · exact absurd rfl ne
    · exact absurd rfl ne
  · exact absurd rfl ne
/-! stretches -/
abbrev dP (p : Nat × Nat) : D := .tup [dN p.1, dN p.2]
def lay : List Nat → Nat → List (Nat × Nat)
  | [], _ => []
  | s :: r, a => (a, a + s) :: lay r (a + s)
theorem lay_length : ∀ (l : List Nat) (a : Nat), (lay l a).length = l.length
  | [], _ => rfl
  | s :: r, a => by simp [lay, lay_length r]
theorem lay_get : ∀ (l : List Nat) (a i : Nat) (s : Nat), l[i]? = some s → (lay l a)[i]? = some (a + (l.take i).sum, a + (l.take i).sum + s)
  | [], _, i, s, e => by simp at e
  | t :: r, a, 0, s, e => by simp at e; subst e; simp [lay]
  | t :: r, a, i + 1, s, e => by
    simp only [List.getElem?_cons_succ] at e
    simp only [lay, List.getElem?_cons_succ, List.take_succ_cons, List.sum_cons]
    rw [lay_get r (a + t) i s e]
    congr 2 <;> omega
theorem low_lay {n : Nat} (l : List (Nat × Nat)) : (D.tup (l.map dP)).low n = true := by
  simp only [D.low]
  rw [lows_mem]
  intro d m
  obtain ⟨p, _, rfl⟩ := List.mem_map.mp m
  rfl
def f_laid_out : MF := fun ds h => match ds with
  | [v] => (match seqF v with
    | some l => (match natsOf l with | some ss => if ss.length ≤ 1000 then .ok (.tup ((lay ss 0).map dP)) h else .no | none => .no)
    | none => .no)
  | _ => .no
theorem me_laid_out : Meets' 1 4 m_laid_out f_laid_out := by
  intro ds h hl lo bel ne
  unfold f_laid_out at ne ⊢
  split at ne
  · next v =>
    split at ne
    · next l e1 =>
      split at ne
      · next ss e2 =>
        split at ne
        · next c =>
          obtain rfl := natsOf_eq e2
          obtain ⟨s', h', z, a, ez, eh⟩ : ∃ s' h', lp_laid_out_0 [some v, some (.cell h.length), some (.int 0), none] (h ++ [.lst []]) = .nx s' h' ∧ ∃ a, s' = [some v, some (.cell h.length), some (dN ((ss.take (ss.map dN).length).sum)), a] ∧ h' = h ++ [.lst (((lay ss 0).take (ss.map dN).length).map dP)] :=
            sFor_all (x := .fix (ss.map dN)) (l := ss.map dN) (fun i s h' => ∃ a, s = [some v, some (.cell h.length), some (dN ((ss.take i).sum)), a] ∧ h' = h ++ [.lst (((lay ss 0).take i).map dP)])
              (by simp only [seqF_src e1, startD, List.map_cons, List.map_nil, List.length_cons, List.length_nil, List.replicate_succ, List.replicate_zero, List.cons_append, List.nil_append, List.append_nil, sSeq, sNext, sAsg, sExpr, sRet, sRetN, sIf, sPar, sAug, sFor, sNo, sSetF, RE.bind, RE.bindA, RA.bindA, RA.bind, RE.bindS, RS.bind, lift, mVar, mC, mBin, mUn, mCB, mCons, mNil, mTup, mLst, mLstC, mChain, mAnd, mOr, mNot, mIf, mTru, mCall, mFld, ar, gN, gNils, gConss, gT, List.getElem?_cons_zero, List.getElem?_cons_succ, List.set_cons_zero, List.set_cons_succ, fEqD_int, fNeD_int, fAdd_int, fSub_int, fLt_int, fLe_int, fGt_int, fGe_int, Nat.reduceSub, RSrc.bindS, RSrc.bind, RE.src, RA.src, iSeq, iEnum', Src.items, Nat.reduceAdd, reduceIte]; rfl) ⟨none, rfl, rfl⟩ (fun i s h' _ => rfl) (fun i d s h' ⟨a, es, eh⟩ ed => by
              subst es eh
              rw [List.getElem?_map] at ed
              obtain ⟨m, em, rfl⟩ := Option.map_eq_some_iff.mp ed
              have hi := (List.getElem?_eq_some_iff.mp em).1
              have el := lay_get ss 0 i m em
              refine ⟨_, _, _, rfl, .inl ?_, some (dN m), rfl, rfl⟩
              have sz : (((lay ss 0).take i).map dP).length < sizeLine := by
                rw [List.length_map, List.length_take, lay_length]
                have := sz_of (n := i + 1) (m := 1000) (by omega)
                omega
              have e3 : ((lay ss 0).take (i + 1)).map dP = ((lay ss 0).take i).map dP ++ [.tup [.int ((ss.take i).sum : Nat), .int (((ss.take i).sum : Nat) + (m : Int))]] := by
                rw [List.take_succ, el, Option.toList_some, List.map_append]
                simp
              have e4 : (((ss.take (i + 1)).sum : Nat) : Int) = ((ss.take i).sum : Nat) + (m : Int) := by
                rw [List.take_succ, em, Option.toList_some, List.sum_append]
                simp
              simp only [mApp, isLst, at_end, appAt, sz, set_end, e3, fInt, if_pos (two_ok (n := 2) (by decide)), startD, List.map_cons, List.map_nil, List.length_cons, List.length_nil, List.replicate_succ, List.replicate_zero, List.cons_append, List.nil_append, List.append_nil, sSeq, sNext, sAsg, sExpr, sRet, sRetN, sIf, sPar, sAug, sFor, sNo, sSetF, RE.bind, RE.bindA, RA.bindA, RA.bind, RE.bindS, RS.bind, lift, mVar, mC, mBin, mUn, mCB, mCons, mNil, mTup, mLst, mLstC, mChain, mAnd, mOr, mNot, mIf, mTru, mCall, mFld, ar, gN, gNils, gConss, gT, List.getElem?_cons_zero, List.getElem?_cons_succ, List.set_cons_zero, List.set_cons_succ, fEqD_int, fNeD_int, fAdd_int, fSub_int, fLt_int, fLe_int, fGt_int, fGe_int, Nat.reduceSub, RSrc.bindS, RSrc.bind, RE.src, RA.src, iSeq, iEnum', Src.items, Nat.reduceAdd, reduceIte]
              rw [← e4])
          rw [List.length_map] at ez eh
          subst ez eh
          have e5 : (lay ss 0).take ss.length = lay ss 0 := by rw [← lay_length ss 0, List.take_length]
          simp only [e1, e2, c, m_laid_out, z, if_pos (two_ok (n := 0) (by decide)), startD, List.map_cons, List.map_nil, List.length_cons, List.length_nil, List.replicate_succ, List.replicate_zero, List.cons_append, List.nil_append, List.append_nil, sSeq, sNext, sAsg, sExpr, sRet, sRetN, sIf, sPar, sAug, sFor, sNo, sSetF, RE.bind, RE.bindA, RA.bindA, RA.bind, RE.bindS, RS.bind, lift, mVar, mC, mBin, mUn, mCB, mCons, mNil, mTup, mLst, mLstC, mChain, mAnd, mOr, mNot, mIf, mTru, mCall, mFld, ar, gN, gNils, gConss, gT, List.getElem?_cons_zero, List.getElem?_cons_succ, List.set_cons_zero, List.set_cons_succ, fEqD_int, fNeD_int, fAdd_int, fSub_int, fLt_int, fLe_int, fGt_int, fGe_int, Nat.reduceSub, RSrc.bindS, RSrc.bind, RE.src, RA.src, iSeq, iEnum', Src.items, Nat.reduceAdd, reduceIte]
          simp only [cTuple, lsOf, lstOf, at_end, e5, Option.map_some, startD, List.map_cons, List.map_nil, List.length_cons, List.length_nil, List.replicate_succ, List.replicate_zero, List.cons_append, List.nil_append, List.append_nil, sSeq, sNext, sAsg, sExpr, sRet, sRetN, sIf, sPar, sAug, sFor, sNo, sSetF, RE.bind, RE.bindA, RA.bindA, RA.bind, RE.bindS, RS.bind, lift, mVar, mC, mBin, mUn, mCB, mCons, mNil, mTup, mLst, mLstC, mChain, mAnd, mOr, mNot, mIf, mTru, mCall, mFld, ar, gN, gNils, gConss, gT, List.getElem?_cons_zero, List.getElem?_cons_succ, List.set_cons_zero, List.set_cons_succ, fEqD_int, fNeD_int, fAdd_int, fSub_int, fLt_int, fLe_int, fGt_int, fGe_int, Nat.reduceSub, RSrc.bindS, RSrc.bind, RE.src, RA.src, iSeq, iEnum', Src.items, Nat.reduceAdd, reduceIte]
          exact dr_rtj (low_lay _)
        · exact absurd rfl ne
      · exact absurd rfl ne
    · exact absurd rfl ne
  · exact absurd rfl ne
end K16

set_option Elab.async false
set_option linter.all false
set_option maxRecDepth 100000
set_option exponentiation.threshold 10000
namespace K16
open PySem PySem.Spec PyProof.Rows L2 Py
theorem atI_nat {β : Type} {l : List β} {i : Nat} {d : β} (e : l[i]? = some d) : atI l (i : Int) = some d := by
  have hi := (List.getElem?_eq_some_iff.mp e).1
  unfold atI ixN
  rw [if_pos (Int.natCast_nonneg i), if_pos (by omega)]
  simpa using e
theorem fIx_tup {h : CH} {l : List D} {i : Nat} {d : D} (e : l[i]? = some d) : fIx h (.tup l) (dN i) = some d := by
  simp only [fIx, seqOf]
  exact atI_nat e
theorem fIx_lst {h : CH} {l : List D} {i : Nat} {d : D} (e : l[i]? = some d) : fIx h (.lst l) (dN i) = some d := by
  simp only [fIx, seqOf, lstOf]
  exact atI_nat e
def prsOf : List D → Option (List (Nat × Nat))
  | [] => some []
  | .tup [.int a, .int b] :: r => if 0 ≤ a ∧ 0 ≤ b then (prsOf r).map ((a.toNat, b.toNat) :: ·) else none
  | _ => none
theorem prsOf_map : ∀ l : List (Nat × Nat), prsOf (l.map dP) = some l
  | [] => rfl
  | (a, b) :: r => by
    rw [List.map_cons]
    show (if 0 ≤ (a : Int) ∧ 0 ≤ (b : Int) then (prsOf (r.map dP)).map (((a : Int).toNat, (b : Int).toNat) :: ·) else none) = _
    rw [if_pos ⟨Int.natCast_nonneg _, Int.natCast_nonneg _⟩, prsOf_map r]
    simp
theorem prsOf_eq {l : List D} : ∀ {ps : List (Nat × Nat)}, prsOf l = some ps → l = ps.map dP := by
  fun_induction prsOf l with
  | case1 => intro ps e; cases e; rfl
  | case2 a b r hc ih =>
    intro ps e
    simp only [Option.map_eq_some_iff] at e
    obtain ⟨qs, e1, rfl⟩ := e
    rw [ih e1, List.map_cons]
    have za : ((a.toNat : Nat) : Int) = a := Int.toNat_of_nonneg hc.1
    have zb : ((b.toNat : Nat) : Int) = b := Int.toNat_of_nonneg hc.2
    show _ = D.tup [.int ((a.toNat : Nat) : Int), .int ((b.toNat : Nat) : Int)] :: _
    rw [za, zb]
  | case3 => intro ps e; cases e
  | case4 => intro ps e; cases e
/-- the number of the stretch that holds p -/
def findS (ps : List (Nat × Nat)) (p : Nat) : Option Nat := ps.findIdx? fun q => decide (q.1 ≤ p ∧ p < q.2)
def f_stretch_with : MF := fun ds h => match ds with
  | [.tup l, .int p] => (match prsOf l with
    | some ps => if 0 ≤ p then (match findS ps p.toNat with | some i => .ok (dN i) h | none => .ok .non h) else .no
    | none => .no)
  | _ => .no
theorem body_stretch {ps : List (Nat × Nat)} {p i : Nat} {q : Nat × Nat} (h : CH) (a b c v0 : Option D) : ∃ s1, gT 2 (gConss (gN 2) (gConss (gT 2 (gConss (gN 3) (gConss (gN 4) gNils))) gNils)) (.tup [.int ((0 + i : Nat) : Int), dP q]) [v0, some (dN p), a, b, c] = some s1 ∧ s1 = [v0, some (dN p), some (dN i), some (dN q.1), some (dN q.2)] := by
  refine ⟨_, rfl, ?_⟩
  simp
theorem me_stretch_with : Meets' 2 5 m_stretch_with f_stretch_with := by
  intro ds h hl lo bel ne
  unfold f_stretch_with at ne ⊢
  split at ne
  · next l p =>
    split at ne
    · next ps e1 =>
      split at ne
      · next hp =>
        obtain rfl := prsOf_eq e1
        obtain ⟨p, rfl⟩ := Int.eq_ofNat_of_zero_le hp
        rw [Int.toNat_natCast] at ne ⊢
        have turn : ∀ (i : Nat) (q : Nat × Nat), ps[i]? = some q → ∀ (h' : CH) (a b c : Option D) (k : Bool), decide (q.1 ≤ p ∧ p < q.2) = k → ∃ s1 s', gT 2 (gConss (gN 2) (gConss (gT 2 (gConss (gN 3) (gConss (gN 4) gNils))) gNils)) (.tup [.int ((0 + i : Nat) : Int), dP q]) [some (.tup (ps.map dP)), some (dN p), a, b, c] = some s1 ∧
            (sSeq (sIf (mChain fLe fLt (mVar 3) (mVar 1) (mVar 4)) (sSeq (sRet (mVar 2)) sNext) sNext) sNext) s1 h' = (if k then .rt (dN i) h' else .nx s' h') ∧ s' = [some (.tup (ps.map dP)), some (dN p), some (dN i), some (dN q.1), some (dN q.2)] := by
          intro i q eq h' a b c k ek
          refine ⟨_, _, rfl, ?_, rfl⟩
          by_cases c1 : q.1 ≤ p
          · have d1 : ((q.1 : Int) ≤ (p : Int)) := by omega
            by_cases c2 : p < q.2
            · have d2 : (p : Int) < (q.2 : Int) := by omega
              have kt : k = true := by rw [← ek]; exact decide_eq_true ⟨c1, c2⟩
              subst kt
              simp only [d1, d2, decide_true, startD, List.map_cons, List.map_nil, List.length_cons, List.length_nil, List.replicate_succ, List.replicate_zero, List.cons_append, List.nil_append, List.append_nil, sSeq, sNext, sAsg, sExpr, sRet, sRetN, sIf, sPar, sAug, sFor, sNo, sSetF, RE.bind, RE.bindA, RA.bindA, RA.bind, RE.bindS, RS.bind, lift, mVar, mC, mBin, mUn, mCB, mCons, mNil, mTup, mLst, mLstC, mChain, mAnd, mOr, mNot, mIf, mTru, mCall, mFld, ar, gN, gNils, gConss, gT, List.getElem?_cons_zero, List.getElem?_cons_succ, List.set_cons_zero, List.set_cons_succ, fEqD_int, fNeD_int, fAdd_int, fSub_int, fLt_int, fLe_int, fGt_int, fGe_int, Nat.reduceSub, RSrc.bindS, RSrc.bind, RE.src, RA.src, iSeq, iEnum', Src.items, Nat.reduceAdd, reduceIte]
              simp
            · have d2 : ¬ ((p : Int) < (q.2 : Int)) := by omega
              have kt : k = false := by rw [← ek]; exact decide_eq_false fun z => c2 z.2
              subst kt
              simp only [d1, d2, decide_true, decide_false, startD, List.map_cons, List.map_nil, List.length_cons, List.length_nil, List.replicate_succ, List.replicate_zero, List.cons_append, List.nil_append, List.append_nil, sSeq, sNext, sAsg, sExpr, sRet, sRetN, sIf, sPar, sAug, sFor, sNo, sSetF, RE.bind, RE.bindA, RA.bindA, RA.bind, RE.bindS, RS.bind, lift, mVar, mC, mBin, mUn, mCB, mCons, mNil, mTup, mLst, mLstC, mChain, mAnd, mOr, mNot, mIf, mTru, mCall, mFld, ar, gN, gNils, gConss, gT, List.getElem?_cons_zero, List.getElem?_cons_succ, List.set_cons_zero, List.set_cons_succ, fEqD_int, fNeD_int, fAdd_int, fSub_int, fLt_int, fLe_int, fGt_int, fGe_int, Nat.reduceSub, RSrc.bindS, RSrc.bind, RE.src, RA.src, iSeq, iEnum', Src.items, Nat.reduceAdd, reduceIte]
              simp
          · have d1 : ¬ ((q.1 : Int) ≤ (p : Int)) := by omega
            have kt : k = false := by rw [← ek]; exact decide_eq_false fun z => c1 z.1
            subst kt
            simp only [d1, decide_false, startD, List.map_cons, List.map_nil, List.length_cons, List.length_nil, List.replicate_succ, List.replicate_zero, List.cons_append, List.nil_append, List.append_nil, sSeq, sNext, sAsg, sExpr, sRet, sRetN, sIf, sPar, sAug, sFor, sNo, sSetF, RE.bind, RE.bindA, RA.bindA, RA.bind, RE.bindS, RS.bind, lift, mVar, mC, mBin, mUn, mCB, mCons, mNil, mTup, mLst, mLstC, mChain, mAnd, mOr, mNot, mIf, mTru, mCall, mFld, ar, gN, gNils, gConss, gT, List.getElem?_cons_zero, List.getElem?_cons_succ, List.set_cons_zero, List.set_cons_succ, fEqD_int, fNeD_int, fAdd_int, fSub_int, fLt_int, fLe_int, fGt_int, fGe_int, Nat.reduceSub, RSrc.bindS, RSrc.bind, RE.src, RA.src, iSeq, iEnum', Src.items, Nat.reduceAdd, reduceIte]
            simp
        cases ef : findS ps p with
        | none =>
          have all : ∀ (i : Nat) (q : Nat × Nat), ps[i]? = some q → decide (q.1 ≤ p ∧ p < q.2) = false := fun i q eq => by
            unfold findS at ef
            rw [List.findIdx?_eq_none_iff] at ef
            exact ef q (List.mem_of_getElem? eq)
          obtain ⟨s', h', z, a, b, c, ez, eh⟩ : ∃ s' h', lp_stretch_with_0 [some (.tup (ps.map dP)), some (dN p), none, none, none] h = .nx s' h' ∧ ∃ a b c, s' = [some (.tup (ps.map dP)), some (dN p), a, b, c] ∧ h' = h :=
            sFor_all (x := .enum (.fix (ps.map dP))) (l := pairs 0 (ps.map dP)) (fun i s h' => ∃ a b c, s = [some (.tup (ps.map dP)), some (dN p), a, b, c] ∧ h' = h) rfl ⟨none, none, none, rfl, rfl⟩ (fun i s h' _ => rfl) (fun i d s h' ⟨a, b, c, es, eh⟩ ed => by
              subst es eh
              obtain ⟨x, ex, rfl⟩ := pairs_get ed
              rw [List.getElem?_map] at ex
              obtain ⟨q, eq, rfl⟩ := Option.map_eq_some_iff.mp ex
              obtain ⟨s1, s', z1, z2, z3⟩ := turn i q eq h' a b c false (all i q eq)
              exact ⟨s1, s', h', z1, .inl (by simpa using z2), _, _, _, z3, rfl⟩)
          subst ez eh
          simp only [m_stretch_with, z, startD, List.map_cons, List.map_nil, List.length_cons, List.length_nil, List.replicate_succ, List.replicate_zero, List.cons_append, List.nil_append, List.append_nil, sSeq, sNext, sAsg, sExpr, sRet, sRetN, sIf, sPar, sAug, sFor, sNo, sSetF, RE.bind, RE.bindA, RA.bindA, RA.bind, RE.bindS, RS.bind, lift, mVar, mC, mBin, mUn, mCB, mCons, mNil, mTup, mLst, mLstC, mChain, mAnd, mOr, mNot, mIf, mTru, mCall, mFld, ar, gN, gNils, gConss, gT, List.getElem?_cons_zero, List.getElem?_cons_succ, List.set_cons_zero, List.set_cons_succ, fEqD_int, fNeD_int, fAdd_int, fSub_int, fLt_int, fLe_int, fGt_int, fGe_int, Nat.reduceSub, RSrc.bindS, RSrc.bind, RE.src, RA.src, iSeq, iEnum', Src.items, Nat.reduceAdd, reduceIte]
          exact dr_rt rfl
        | some j =>
          unfold findS at ef
          rw [List.findIdx?_eq_some_iff_getElem] at ef
          obtain ⟨hj, f1, f2⟩ := ef
          obtain ⟨s', h', z, eh⟩ : ∃ s' h', lp_stretch_with_0 [some (.tup (ps.map dP)), some (dN p), none, none, none] h = .rt (dN j) h' ∧ h' = h := by
            obtain ⟨s', h', z, a, b, c, ez, eh⟩ := sFor_rt (mi := iEnum' (mCons (mVar 0) mNil)) (g := gT 2 (gConss (gN 2) (gConss (gT 2 (gConss (gN 3) (gConss (gN 4) gNils))) gNils))) (mb := sSeq (sIf (mChain fLe fLt (mVar 3) (mVar 1) (mVar 4)) (sSeq (sRet (mVar 2)) sNext) sNext) sNext)
              (s := [some (.tup (ps.map dP)), some (dN p), none, none, none]) (h := h) (x := .enum (.fix (ps.map dP))) (l := pairs 0 (ps.map dP)) (fun i s h' => ∃ a b c, s = [some (.tup (ps.map dP)), some (dN p), a, b, c] ∧ h' = h) j (by rw [pairs_length, List.length_map]; exact hj) (dN j) rfl ⟨none, none, none, rfl, rfl⟩ (fun i s h' _ => rfl) (fun i d s h' hi ⟨a, b, c, es, eh⟩ ed => by
                subst es eh
                obtain ⟨x, ex, rfl⟩ := pairs_get ed
                rw [List.getElem?_map] at ex
                obtain ⟨q, eq, rfl⟩ := Option.map_eq_some_iff.mp ex
                obtain ⟨s1, s', z1, z2, z3⟩ := turn i q eq h' a b c false (by
                  have := f2 i hi
                  rw [List.getElem?_eq_getElem (by omega)] at eq
                  cases eq
                  simpa using this)
                exact ⟨s1, s', h', z1, .inl (by simpa using z2), _, _, _, z3, rfl⟩) (fun s h' ⟨a, b, c, es, eh⟩ => by
                subst es eh
                have eq : ps[j]? = some ps[j] := List.getElem?_eq_getElem hj
                obtain ⟨s1, s', z1, z2, z3⟩ := turn j ps[j] eq h' a b c true f1
                refine ⟨_, s1, h', ?_, z1, by simpa using z2, a, b, c, rfl, rfl⟩
                have pl : j < (pairs 0 (ps.map dP)).length := by rw [pairs_length, List.length_map]; exact hj
                obtain ⟨x, ex, ed⟩ := pairs_get (List.getElem?_eq_getElem pl)
                rw [List.getElem?_map, eq] at ex
                cases ex
                rw [List.getElem?_eq_getElem pl, ed])
            exact ⟨s', h', z, eh⟩
          subst eh
          simp only [m_stretch_with, z, startD, List.map_cons, List.map_nil, List.length_cons, List.length_nil, List.replicate_succ, List.replicate_zero, List.cons_append, List.nil_append, List.append_nil, sSeq, sNext, sAsg, sExpr, sRet, sRetN, sIf, sPar, sAug, sFor, sNo, sSetF, RE.bind, RE.bindA, RA.bindA, RA.bind, RE.bindS, RS.bind, lift, mVar, mC, mBin, mUn, mCB, mCons, mNil, mTup, mLst, mLstC, mChain, mAnd, mOr, mNot, mIf, mTru, mCall, mFld, ar, gN, gNils, gConss, gT, List.getElem?_cons_zero, List.getElem?_cons_succ, List.set_cons_zero, List.set_cons_succ, fEqD_int, fNeD_int, fAdd_int, fSub_int, fLt_int, fLe_int, fGt_int, fGe_int, Nat.reduceSub, RSrc.bindS, RSrc.bind, RE.src, RA.src, iSeq, iEnum', Src.items, Nat.reduceAdd, reduceIte]
          exact dr_rt rfl
      · exact absurd rfl ne
    · exact absurd rfl ne
  · exact absurd rfl ne
def f_is_log : MF := fun ds h => match ds with
  | [v, .int m] => (match seqF v with
    | some l => (match natsOf l with | some lg => if lg.length ≤ 10000 ∧ (∀ x ∈ lg, (x : Int) < m) then .ok (.bl true) h else .no | none => .no)
    | none => .no)
  | _ => .no
theorem all_true : ∀ {n : Nat}, (List.replicate n true).all id = true
  | 0 => rfl
  | n + 1 => by rw [List.replicate_succ]; simp
theorem me_is_log : Meets' 2 3 (m_is_log f_is_sequence f_is_below) f_is_log := by
  intro ds h hl lo bel ne
  unfold f_is_log at ne ⊢
  split at ne
  · next v m =>
    split at ne
    · next l e1 =>
      split at ne
      · next lg e2 =>
        split at ne
        · next c =>
          obtain rfl := natsOf_eq e2
          have lc : lc_is_log_0 f_is_sequence f_is_below [some v, some (.int m), none] h = .ok (.lst (lg.map fun _ => D.bl true)) h :=
            mLc_all (x := .fix (lg.map dN)) dN (fun _ => D.bl true) (by simp only [seqF_src e1, startD, List.map_cons, List.map_nil, List.length_cons, List.length_nil, List.replicate_succ, List.replicate_zero, List.cons_append, List.nil_append, List.append_nil, sSeq, sNext, sAsg, sExpr, sRet, sRetN, sIf, sPar, sAug, sFor, sNo, sSetF, RE.bind, RE.bindA, RA.bindA, RA.bind, RE.bindS, RS.bind, lift, mVar, mC, mBin, mUn, mCB, mCons, mNil, mTup, mLst, mLstC, mChain, mAnd, mOr, mNot, mIf, mTru, mCall, mFld, ar, gN, gNils, gConss, gT, List.getElem?_cons_zero, List.getElem?_cons_succ, List.set_cons_zero, List.set_cons_succ, fEqD_int, fNeD_int, fAdd_int, fSub_int, fLt_int, fLe_int, fGt_int, fGe_int, Nat.reduceSub, RSrc.bindS, RSrc.bind, RE.src, RA.src, iSeq, iEnum', Src.items, Nat.reduceAdd, reduceIte]) rfl (sz_of c.1) fun x mx => by
              refine ⟨_, rfl, ?_⟩
              have b1 : (0 : Int) ≤ (x : Int) := Int.natCast_nonneg _
              have b2 := c.2 x mx
              simp only [wipeS, f_is_below, b1, b2, decide_true, Bool.and_true, startD, List.map_cons, List.map_nil, List.length_cons, List.length_nil, List.replicate_succ, List.replicate_zero, List.cons_append, List.nil_append, List.append_nil, sSeq, sNext, sAsg, sExpr, sRet, sRetN, sIf, sPar, sAug, sFor, sNo, sSetF, RE.bind, RE.bindA, RA.bindA, RA.bind, RE.bindS, RS.bind, lift, mVar, mC, mBin, mUn, mCB, mCons, mNil, mTup, mLst, mLstC, mChain, mAnd, mOr, mNot, mIf, mTru, mCall, mFld, ar, gN, gNils, gConss, gT, List.getElem?_cons_zero, List.getElem?_cons_succ, List.set_cons_zero, List.set_cons_succ, fEqD_int, fNeD_int, fAdd_int, fSub_int, fLt_int, fLe_int, fGt_int, fGe_int, Nat.reduceSub, RSrc.bindS, RSrc.bind, RE.src, RA.src, iSeq, iEnum', Src.items, Nat.reduceAdd, reduceIte]
          have n1 : (lg.length : Int) ≤ 10000 := by have := c.1; omega
          have em : (lg.map fun _ => D.bl true) = (List.replicate lg.length true).map D.bl := by rw [List.map_replicate]; exact List.map_const'
          simp only [e1, e2, if_pos c, m_is_log, f_is_sequence, seqF_seq e1, seqF_len e1, lc, n1, List.length_map, decide_true, em, cAll, lsOf, lstOf, boolsOf_map, all_true, startD, List.map_cons, List.map_nil, List.length_cons, List.length_nil, List.replicate_succ, List.replicate_zero, List.cons_append, List.nil_append, List.append_nil, sSeq, sNext, sAsg, sExpr, sRet, sRetN, sIf, sPar, sAug, sFor, sNo, sSetF, RE.bind, RE.bindA, RA.bindA, RA.bind, RE.bindS, RS.bind, lift, mVar, mC, mBin, mUn, mCB, mCons, mNil, mTup, mLst, mLstC, mChain, mAnd, mOr, mNot, mIf, mTru, mCall, mFld, ar, gN, gNils, gConss, gT, List.getElem?_cons_zero, List.getElem?_cons_succ, List.set_cons_zero, List.set_cons_succ, fEqD_int, fNeD_int, fAdd_int, fSub_int, fLt_int, fLe_int, fGt_int, fGe_int, Nat.reduceSub, RSrc.bindS, RSrc.bind, RE.src, RA.src, iSeq, iEnum', Src.items, Nat.reduceAdd, reduceIte]
          exact dr_rt rfl
        · exact absurd rfl ne
      · exact absurd rfl ne
    · exact absurd rfl ne
  · exact absurd rfl ne
end K16

set_option Elab.async false
set_option linter.all false
set_option maxRecDepth 100000
set_option exponentiation.threshold 10000
namespace K16
open PySem PySem.Spec PyProof.Rows L2 Py
def logsOf : List D → Option (List (List Nat))
  | [] => some []
  | d :: r => match seqF d with
    | some l => (match natsOf l with | some ns => (logsOf r).map (ns :: ·) | none => none)
    | none => none
def frz : D → D := fun d => match seqF d with | some l => .tup l | none => .non
theorem logsOf_get : ∀ {l : List D} {lgs : List (List Nat)}, logsOf l = some lgs → l.length = lgs.length ∧ l.map frz = lgs.map tN ∧ ∀ (i : Nat) (d : D), l[i]? = some d → ∃ lg, lgs[i]? = some lg ∧ seqF d = some (lg.map dN)
  | [], lgs, e => by cases e; exact ⟨rfl, rfl, fun i d e => by simp at e⟩
  | d :: r, lgs, e => by
    unfold logsOf at e
    split at e
    · next l e1 =>
      split at e
      · next ns e2 =>
        simp only [Option.map_eq_some_iff] at e
        obtain ⟨qs, e3, rfl⟩ := e
        obtain ⟨i1, i2, i3⟩ := logsOf_get e3
        have q := natsOf_eq e2
        subst q
        refine ⟨by simp [i1], by simp [i2, frz, e1], fun i d' ed => ?_⟩
        cases i with
        | zero => simp at ed; subst ed; exact ⟨ns, rfl, e1⟩
        | succ i => simpa using i3 i d' (by simpa using ed)
      · cases e
    · cases e
/-- logs that fit the numbers of marks -/
def okLogs (ms : List Nat) (lgs : List (List Nat)) : Prop := lgs.length = ms.length ∧ (∀ lg ∈ lgs, lg.length ≤ 10000) ∧ ∀ (i : Nat) (lg : List Nat) (m : Nat), lgs[i]? = some lg → ms[i]? = some m → ∀ x ∈ lg, x < m
open Classical in
noncomputable def f_check_logs : MF := fun ds h => match ds with
  | [d, v] => (match hOf d, seqF v with
    | some ms, some l => (match logsOf l with
      | some lgs => if okLogs ms lgs then .ok (.tup (lgs.map tN)) h else .no
      | none => .no)
    | _, _ => .no)
  | _ => .no
theorem low_logs {n : Nat} (lgs : List (List Nat)) : (D.tup (lgs.map tN)).low n = true := by
  simp only [D.low]
  rw [lows_mem]
  intro d m
  obtain ⟨p, _, rfl⟩ := List.mem_map.mp m
  exact low_tN p
theorem seqF_ctup {h : CH} {d : D} {l : List D} (e : seqF d = some l) : cTuple h [d] = some (frz d) := by
  rw [seqF_tup e]
  simp [frz, e]
theorem me_check_logs : Meets' 2 4 (m_check_logs f_is_sequence f_is_log) f_check_logs := by
  intro ds h hl lo bel ne
  unfold f_check_logs at ne ⊢
  split at ne
  · next d v =>
    split at ne
    · next ms l e1 e2 =>
      split at ne
      · next lgs e3 =>
        split at ne
        · next c =>
          obtain ⟨rfl, cm⟩ := hOf_eq e1
          obtain ⟨c1, c2, c3⟩ := c
          obtain ⟨l1, l2, l3⟩ := logsOf_get e3
          have c : okLogs ms lgs := ⟨c1, c2, c3⟩
          have hn := okMs_len cm
          obtain ⟨s', h', z, a, b, ez, eh⟩ : ∃ s' h', lp_check_logs_0 f_is_sequence f_is_log [some (hD ms), some v, none, none] h = .nx s' h' ∧ ∃ a b, s' = [some (hD ms), some v, a, b] ∧ h' = h :=
            sFor_all (x := .enum (.fix l)) (l := pairs 0 l) (fun i s h' => ∃ a b, s = [some (hD ms), some v, a, b] ∧ h' = h) (by simp only [seqF_src e2, Option.map_some, startD, List.map_cons, List.map_nil, List.length_cons, List.length_nil, List.replicate_succ, List.replicate_zero, List.cons_append, List.nil_append, List.append_nil, sSeq, sNext, sAsg, sExpr, sRet, sRetN, sIf, sPar, sAug, sFor, sNo, sSetF, RE.bind, RE.bindA, RA.bindA, RA.bind, RE.bindS, RS.bind, lift, mVar, mC, mBin, mUn, mCB, mCons, mNil, mTup, mLst, mLstC, mChain, mAnd, mOr, mNot, mIf, mTru, mCall, mFld, ar, gN, gNils, gConss, gT, List.getElem?_cons_zero, List.getElem?_cons_succ, List.set_cons_zero, List.set_cons_succ, fEqD_int, fNeD_int, fAdd_int, fSub_int, fLt_int, fLe_int, fGt_int, fGe_int, Nat.reduceSub, RSrc.bindS, RSrc.bind, RE.src, RA.src, iSeq, iEnum', Src.items, Nat.reduceAdd, reduceIte]) ⟨none, none, rfl, rfl⟩ (fun i s h' _ => rfl) (fun i d s h' ⟨a, b, es, eh⟩ ed => by
              subst es eh
              obtain ⟨x, ex, rfl⟩ := pairs_get ed
              obtain ⟨lg, g1, g2⟩ := l3 i x ex
              have hi : i < ms.length := by
                rw [← c1]
                exact (List.getElem?_eq_some_iff.mp g1).1
              have gm : ms[i]? = some ms[i] := List.getElem?_eq_getElem hi
              have b1 : ∀ y ∈ lg, (y : Int) < (ms[i] : Int) := fun y my => by have := c3 i lg ms[i] g1 gm y my; omega
              have ix : fIx h' (tN ms) (.int ((0 + i : Nat) : Int)) = some (dN ms[i]) := by
                rw [Nat.zero_add]
                exact fIx_tup (by rw [List.getElem?_map, gm]; rfl)
              refine ⟨_, _, _, rfl, .inl ?_, some (.int ((0 + i : Nat) : Int)), some x, rfl, rfl⟩
              simp only [fld_marks, f_is_log, ix, g2, natsOf_map, if_pos (show lg.length ≤ 10000 ∧ ∀ y ∈ lg, (y : Int) < (ms[i] : Int) from ⟨c2 lg (List.mem_of_getElem? g1), b1⟩), Bool.not_true, startD, List.map_cons, List.map_nil, List.length_cons, List.length_nil, List.replicate_succ, List.replicate_zero, List.cons_append, List.nil_append, List.append_nil, sSeq, sNext, sAsg, sExpr, sRet, sRetN, sIf, sPar, sAug, sFor, sNo, sSetF, RE.bind, RE.bindA, RA.bindA, RA.bind, RE.bindS, RS.bind, lift, mVar, mC, mBin, mUn, mCB, mCons, mNil, mTup, mLst, mLstC, mChain, mAnd, mOr, mNot, mIf, mTru, mCall, mFld, ar, gN, gNils, gConss, gT, List.getElem?_cons_zero, List.getElem?_cons_succ, List.set_cons_zero, List.set_cons_succ, fEqD_int, fNeD_int, fAdd_int, fSub_int, fLt_int, fLe_int, fGt_int, fGe_int, Nat.reduceSub, RSrc.bindS, RSrc.bind, RE.src, RA.src, iSeq, iEnum', Src.items, Nat.reduceAdd, reduceIte])
          subst ez eh
          have lc : lc_check_logs_0 f_is_sequence f_is_log [some (hD ms), some v, a, b] h' = .ok (.lst (l.map frz)) h' :=
            mLc_all (x := .fix l) id frz (by simp only [seqF_src e2, startD, List.map_cons, List.map_nil, List.length_cons, List.length_nil, List.replicate_succ, List.replicate_zero, List.cons_append, List.nil_append, List.append_nil, sSeq, sNext, sAsg, sExpr, sRet, sRetN, sIf, sPar, sAug, sFor, sNo, sSetF, RE.bind, RE.bindA, RA.bindA, RA.bind, RE.bindS, RS.bind, lift, mVar, mC, mBin, mUn, mCB, mCons, mNil, mTup, mLst, mLstC, mChain, mAnd, mOr, mNot, mIf, mTru, mCall, mFld, ar, gN, gNils, gConss, gT, List.getElem?_cons_zero, List.getElem?_cons_succ, List.set_cons_zero, List.set_cons_succ, fEqD_int, fNeD_int, fAdd_int, fSub_int, fLt_int, fLe_int, fGt_int, fGe_int, Nat.reduceSub, RSrc.bindS, RSrc.bind, RE.src, RA.src, iSeq, iEnum', Src.items, Nat.reduceAdd, reduceIte]) (by simp [Src.items]) (sz_of (n := l.length) (m := 8) (by omega)) fun x mx => by
              obtain ⟨i, hi, rfl⟩ := List.getElem_of_mem mx
              obtain ⟨lg, g1, g2⟩ := l3 i l[i] (List.getElem?_eq_getElem hi)
              refine ⟨_, rfl, ?_⟩
              simp only [wipeS, id, seqF_ctup g2, startD, List.map_cons, List.map_nil, List.length_cons, List.length_nil, List.replicate_succ, List.replicate_zero, List.cons_append, List.nil_append, List.append_nil, sSeq, sNext, sAsg, sExpr, sRet, sRetN, sIf, sPar, sAug, sFor, sNo, sSetF, RE.bind, RE.bindA, RA.bindA, RA.bind, RE.bindS, RS.bind, lift, mVar, mC, mBin, mUn, mCB, mCons, mNil, mTup, mLst, mLstC, mChain, mAnd, mOr, mNot, mIf, mTru, mCall, mFld, ar, gN, gNils, gConss, gT, List.getElem?_cons_zero, List.getElem?_cons_succ, List.set_cons_zero, List.set_cons_succ, fEqD_int, fNeD_int, fAdd_int, fSub_int, fLt_int, fLe_int, fGt_int, fGe_int, Nat.reduceSub, RSrc.bindS, RSrc.bind, RE.src, RA.src, iSeq, iEnum', Src.items, Nat.reduceAdd, reduceIte]
          have n1 : (l.length : Int) = (ms.length : Int) := by omega
          simp only [e1, e2, e3, if_pos c, m_check_logs, f_is_sequence, fld_many, seqF_seq e2, seqF_len e2, z, lc, l2, n1, decide_true, Bool.not_true, startD, List.map_cons, List.map_nil, List.length_cons, List.length_nil, List.replicate_succ, List.replicate_zero, List.cons_append, List.nil_append, List.append_nil, sSeq, sNext, sAsg, sExpr, sRet, sRetN, sIf, sPar, sAug, sFor, sNo, sSetF, RE.bind, RE.bindA, RA.bindA, RA.bind, RE.bindS, RS.bind, lift, mVar, mC, mBin, mUn, mCB, mCons, mNil, mTup, mLst, mLstC, mChain, mAnd, mOr, mNot, mIf, mTru, mCall, mFld, ar, gN, gNils, gConss, gT, List.getElem?_cons_zero, List.getElem?_cons_succ, List.set_cons_zero, List.set_cons_succ, fEqD_int, fNeD_int, fAdd_int, fSub_int, fLt_int, fLe_int, fGt_int, fGe_int, Nat.reduceSub, RSrc.bindS, RSrc.bind, RE.src, RA.src, iSeq, iEnum', Src.items, Nat.reduceAdd, reduceIte]
          simp only [cTuple, lsOf, lstOf, Option.map_some, startD, List.map_cons, List.map_nil, List.length_cons, List.length_nil, List.replicate_succ, List.replicate_zero, List.cons_append, List.nil_append, List.append_nil, sSeq, sNext, sAsg, sExpr, sRet, sRetN, sIf, sPar, sAug, sFor, sNo, sSetF, RE.bind, RE.bindA, RA.bindA, RA.bind, RE.bindS, RS.bind, lift, mVar, mC, mBin, mUn, mCB, mCons, mNil, mTup, mLst, mLstC, mChain, mAnd, mOr, mNot, mIf, mTru, mCall, mFld, ar, gN, gNils, gConss, gT, List.getElem?_cons_zero, List.getElem?_cons_succ, List.set_cons_zero, List.set_cons_succ, fEqD_int, fNeD_int, fAdd_int, fSub_int, fLt_int, fLe_int, fGt_int, fGe_int, Nat.reduceSub, RSrc.bindS, RSrc.bind, RE.src, RA.src, iSeq, iEnum', Src.items, Nat.reduceAdd, reduceIte]
          exact dr_rt (low_logs lgs)
        · exact absurd rfl ne
      · exact absurd rfl ne
    · exact absurd rfl ne
  · exact absurd rfl ne
/-! sizes -/
def szs (ms : List Nat) (n : Nat) : List Nat := ms.map fun m => (n + m - 1) / m
def sSum (ms : List Nat) (n : Nat) : Nat := (szs ms n).sum
theorem ceil_eq (n m : Nat) (h : 0 < m) : -(-(n : Int) / (m : Int)) = (((n + m - 1) / m : Nat) : Int) := by
  have a := Nat.div_mul_le_self (n + m - 1) m
  have b := Nat.lt_div_mul_add (a := n + m - 1) h
  generalize hq : (n + m - 1) / m = q at a b
  have hm : (0 : Int) < (m : Int) := by omega
  have c : (-(n : Int)) / (m : Int) = -(q : Int) := by
    apply Int.le_antisymm
    · have : (-(n : Int)) / (m : Int) < -(q : Int) + 1 := by
        rw [Int.ediv_lt_iff_lt_mul hm]
        have e : (-(q : Int) + 1) * (m : Int) = -((q * m : Nat) : Int) + (m : Int) := by
          rw [Int.add_mul, Int.one_mul, Int.neg_mul, Int.natCast_mul]
        rw [e]
        omega
      omega
    · rw [Int.le_ediv_iff_mul_le hm]
      have e : (-(q : Int)) * (m : Int) = -((q * m : Nat) : Int) := by rw [Int.neg_mul, Int.natCast_mul]
      rw [e]
      omega
  rw [c]
  omega
def f_stretch_sizes : MF := fun ds h => match ds with | [d, .int n] => (match hOf d with | some ms => if 0 ≤ n then .ok (.lst ((szs ms n.toNat).map dN)) h else .no | none => .no) | _ => .no
theorem fNeg_int (h : CH) (i : Int) : fNeg h (.int i) = some (.int (-i)) := rfl
theorem me_stretch_sizes : Meets' 2 3 m_stretch_sizes f_stretch_sizes := by
  intro ds h hl lo bel ne
  unfold f_stretch_sizes at ne ⊢
  split at ne
  · next d n =>
    split at ne
    · next ms e1 =>
      split at ne
      · next hn =>
        obtain ⟨rfl, cm⟩ := hOf_eq e1
        obtain ⟨n, rfl⟩ := Int.eq_ofNat_of_zero_le hn
        have hm := okMs_mem cm
        have lc : lc_stretch_sizes_0 [some (hD ms), some (dN n), none] h = .ok (.lst (ms.map fun m => dN ((n + m - 1) / m))) h :=
          mLc_all (x := .fix (ms.map dN)) dN (fun m => dN ((n + m - 1) / m)) (by simp only [fld_marks, srcOf, startD, List.map_cons, List.map_nil, List.length_cons, List.length_nil, List.replicate_succ, List.replicate_zero, List.cons_append, List.nil_append, List.append_nil, sSeq, sNext, sAsg, sExpr, sRet, sRetN, sIf, sPar, sAug, sFor, sNo, sSetF, RE.bind, RE.bindA, RA.bindA, RA.bind, RE.bindS, RS.bind, lift, mVar, mC, mBin, mUn, mCB, mCons, mNil, mTup, mLst, mLstC, mChain, mAnd, mOr, mNot, mIf, mTru, mCall, mFld, ar, gN, gNils, gConss, gT, List.getElem?_cons_zero, List.getElem?_cons_succ, List.set_cons_zero, List.set_cons_succ, fEqD_int, fNeD_int, fAdd_int, fSub_int, fLt_int, fLe_int, fGt_int, fGe_int, Nat.reduceSub, RSrc.bindS, RSrc.bind, RE.src, RA.src, iSeq, iEnum', Src.items, Nat.reduceAdd, reduceIte]) rfl (sz_of (okMs_len cm).2) fun m mm => by
            have hb := hm m mm
            refine ⟨_, rfl, ?_⟩
            simp only [wipeS, fNeg_int, fDiv_sm h (i := -(n : Int)) (j := (m : Int)) (by omega) (bigs hb.2 b60), ceil_eq n m (by omega), startD, List.map_cons, List.map_nil, List.length_cons, List.length_nil, List.replicate_succ, List.replicate_zero, List.cons_append, List.nil_append, List.append_nil, sSeq, sNext, sAsg, sExpr, sRet, sRetN, sIf, sPar, sAug, sFor, sNo, sSetF, RE.bind, RE.bindA, RA.bindA, RA.bind, RE.bindS, RS.bind, lift, mVar, mC, mBin, mUn, mCB, mCons, mNil, mTup, mLst, mLstC, mChain, mAnd, mOr, mNot, mIf, mTru, mCall, mFld, ar, gN, gNils, gConss, gT, List.getElem?_cons_zero, List.getElem?_cons_succ, List.set_cons_zero, List.set_cons_succ, fEqD_int, fNeD_int, fAdd_int, fSub_int, fLt_int, fLe_int, fGt_int, fGe_int, Nat.reduceSub, RSrc.bindS, RSrc.bind, RE.src, RA.src, iSeq, iEnum', Src.items, Nat.reduceAdd, reduceIte]
        have em : (ms.map fun m => dN ((n + m - 1) / m)) = (szs ms n).map dN := by unfold szs; rw [List.map_map]; rfl
        rw [em] at lc
        simp only [e1, hn, m_stretch_sizes, lc, Int.toNat_natCast, startD, List.map_cons, List.map_nil, List.length_cons, List.length_nil, List.replicate_succ, List.replicate_zero, List.cons_append, List.nil_append, List.append_nil, sSeq, sNext, sAsg, sExpr, sRet, sRetN, sIf, sPar, sAug, sFor, sNo, sSetF, RE.bind, RE.bindA, RA.bindA, RA.bind, RE.bindS, RS.bind, lift, mVar, mC, mBin, mUn, mCB, mCons, mNil, mTup, mLst, mLstC, mChain, mAnd, mOr, mNot, mIf, mTru, mCall, mFld, ar, gN, gNils, gConss, gT, List.getElem?_cons_zero, List.getElem?_cons_succ, List.set_cons_zero, List.set_cons_succ, fEqD_int, fNeD_int, fAdd_int, fSub_int, fLt_int, fLe_int, fGt_int, fGe_int, Nat.reduceSub, RSrc.bindS, RSrc.bind, RE.src, RA.src, iSeq, iEnum', Src.items, Nat.reduceAdd, reduceIte]
        exact dr_rt (by simpa only [D.low] using lows_nats _)
      · exact absurd rfl ne
    · exact absurd rfl ne
  · exact absurd rfl ne
def leastIt (ms : List Nat) : Nat → Nat → Option Nat
  | 0, _ => none
  | k + 1, n => if n < sSum ms n then leastIt ms k (sSum ms n) else some n
def f_least_number : MF := fun ds h => match ds with | [d] => (match hOf d with | some ms => if sumL ms ≤ lcmL ms then (match leastIt ms 100 1 with | some r => .ok (dN r) h | none => .no) else .ok .non h | none => .no) | _ => .no
theorem sum_sizes {h : CH} {ms : List Nat} (n : Nat) : cSum h [.lst ((szs ms n).map dN)] = some (dN (sSum ms n)) := by
  simp only [cSum, lsOf, lstOf, intsOf_nats, Option.map_some, sum_nats]
  rfl
theorem least_run {ms : List Nat} (c : okMs ms = true) (h : CH) (a b : Option D) : ∀ (k n r : Nat), leastIt ms k n = some r →
    whileK (mBin fGt (mCB cSum (mCons (mCall 2 f_stretch_sizes [] (mCons (mVar 0) (mCons (mVar 1) mNil))) mNil)) (mVar 1)) (sSeq (sAsg (mCB cSum (mCons (mCall 2 f_stretch_sizes [] (mCons (mVar 0) (mCons (mVar 1) mNil))) mNil)) (gN 1)) sNext) k [some (hD ms), some (dN n), a, b] h = .nx [some (hD ms), some (dN r), a, b] h
  | 0, _, _, e => by cases e
  | k + 1, n, r, e => by
    unfold leastIt at e
    unfold whileK
    have n0 : (0 : Int) ≤ (n : Int) := Int.natCast_nonneg n
    have z := hOf_hD c
    split at e
    · next lt =>
      have lt' : ((n : Int) < (sSum ms n : Int)) := by omega
      simp only [f_stretch_sizes, z, n0, Int.toNat_natCast, sum_sizes, lt', decide_true, startD, List.map_cons, List.map_nil, List.length_cons, List.length_nil, List.replicate_succ, List.replicate_zero, List.cons_append, List.nil_append, List.append_nil, sSeq, sNext, sAsg, sExpr, sRet, sRetN, sIf, sPar, sAug, sFor, sNo, sSetF, RE.bind, RE.bindA, RA.bindA, RA.bind, RE.bindS, RS.bind, lift, mVar, mC, mBin, mUn, mCB, mCons, mNil, mTup, mLst, mLstC, mChain, mAnd, mOr, mNot, mIf, mTru, mCall, mFld, ar, gN, gNils, gConss, gT, List.getElem?_cons_zero, List.getElem?_cons_succ, List.set_cons_zero, List.set_cons_succ, fEqD_int, fNeD_int, fAdd_int, fSub_int, fLt_int, fLe_int, fGt_int, fGe_int, Nat.reduceSub, RSrc.bindS, RSrc.bind, RE.src, RA.src, iSeq, iEnum', Src.items, Nat.reduceAdd, reduceIte]
      exact least_run c h a b k _ r e
    · next lt =>
      cases e
      have lt' : ¬ ((n : Int) < (sSum ms n : Int)) := by omega
      simp only [f_stretch_sizes, z, n0, Int.toNat_natCast, sum_sizes, lt', decide_false, startD, List.map_cons, List.map_nil, List.length_cons, List.length_nil, List.replicate_succ, List.replicate_zero, List.cons_append, List.nil_append, List.append_nil, sSeq, sNext, sAsg, sExpr, sRet, sRetN, sIf, sPar, sAug, sFor, sNo, sSetF, RE.bind, RE.bindA, RA.bindA, RA.bind, RE.bindS, RS.bind, lift, mVar, mC, mBin, mUn, mCB, mCons, mNil, mTup, mLst, mLstC, mChain, mAnd, mOr, mNot, mIf, mTru, mCall, mFld, ar, gN, gNils, gConss, gT, List.getElem?_cons_zero, List.getElem?_cons_succ, List.set_cons_zero, List.set_cons_succ, fEqD_int, fNeD_int, fAdd_int, fSub_int, fLt_int, fLe_int, fGt_int, fGe_int, Nat.reduceSub, RSrc.bindS, RSrc.bind, RE.src, RA.src, iSeq, iEnum', Src.items, Nat.reduceAdd, reduceIte]
theorem me_least_number : Meets' 1 4 (m_least_number f_share f_stretch_sizes) f_least_number := by
  intro ds h hl lo bel ne
  unfold f_least_number at ne ⊢
  split at ne
  · next d =>
    split at ne
    · next ms e1 =>
      obtain ⟨rfl, cm⟩ := hOf_eq e1
      split at ne
      · next t =>
        split at ne
        · next r e2 =>
          have t2 := tel_iff.mpr t
          have t3 : ¬ (((lcmL ms / Nat.gcd (sumL ms) (lcmL ms) : Nat) : Int) < ((sumL ms / Nat.gcd (sumL ms) (lcmL ms) : Nat) : Int)) := by omega
          have w := least_run cm h (some (dN (sumL ms / Nat.gcd (sumL ms) (lcmL ms)))) (some (dN (lcmL ms / Nat.gcd (sumL ms) (lcmL ms)))) 100 1 r e2
          have w2 : wh_least_number_0 f_share f_stretch_sizes [some (hD ms), some (.int 1), some (dN (sumL ms / Nat.gcd (sumL ms) (lcmL ms))), some (dN (lcmL ms / Nat.gcd (sumL ms) (lcmL ms)))] h = _ := w
          simp only [e1, t, e2, m_least_number, f_share, t3, decide_false, startD, List.map_cons, List.map_nil, List.length_cons, List.length_nil, List.replicate_succ, List.replicate_zero, List.cons_append, List.nil_append, List.append_nil, sSeq, sNext, sAsg, sExpr, sRet, sRetN, sIf, sPar, sAug, sFor, sNo, sSetF, RE.bind, RE.bindA, RA.bindA, RA.bind, RE.bindS, RS.bind, lift, mVar, mC, mBin, mUn, mCB, mCons, mNil, mTup, mLst, mLstC, mChain, mAnd, mOr, mNot, mIf, mTru, mCall, mFld, ar, gN, gNils, gConss, gT, List.getElem?_cons_zero, List.getElem?_cons_succ, List.set_cons_zero, List.set_cons_succ, fEqD_int, fNeD_int, fAdd_int, fSub_int, fLt_int, fLe_int, fGt_int, fGe_int, Nat.reduceSub, RSrc.bindS, RSrc.bind, RE.src, RA.src, iSeq, iEnum', Src.items, Nat.reduceAdd, reduceIte]
          rw [w2]
          simp only [startD, List.map_cons, List.map_nil, List.length_cons, List.length_nil, List.replicate_succ, List.replicate_zero, List.cons_append, List.nil_append, List.append_nil, sSeq, sNext, sAsg, sExpr, sRet, sRetN, sIf, sPar, sAug, sFor, sNo, sSetF, RE.bind, RE.bindA, RA.bindA, RA.bind, RE.bindS, RS.bind, lift, mVar, mC, mBin, mUn, mCB, mCons, mNil, mTup, mLst, mLstC, mChain, mAnd, mOr, mNot, mIf, mTru, mCall, mFld, ar, gN, gNils, gConss, gT, List.getElem?_cons_zero, List.getElem?_cons_succ, List.set_cons_zero, List.set_cons_succ, fEqD_int, fNeD_int, fAdd_int, fSub_int, fLt_int, fLe_int, fGt_int, fGe_int, Nat.reduceSub, RSrc.bindS, RSrc.bind, RE.src, RA.src, iSeq, iEnum', Src.items, Nat.reduceAdd, reduceIte]
          exact dr_rt rfl
        · exact absurd rfl ne
      · next t =>
        have t2 := mt tel_iff.mp t
        have t3 : (((lcmL ms / Nat.gcd (sumL ms) (lcmL ms) : Nat) : Int) < ((sumL ms / Nat.gcd (sumL ms) (lcmL ms) : Nat) : Int)) := by omega
        simp only [e1, t, m_least_number, f_share, t3, decide_true, startD, List.map_cons, List.map_nil, List.length_cons, List.length_nil, List.replicate_succ, List.replicate_zero, List.cons_append, List.nil_append, List.append_nil, sSeq, sNext, sAsg, sExpr, sRet, sRetN, sIf, sPar, sAug, sFor, sNo, sSetF, RE.bind, RE.bindA, RA.bindA, RA.bind, RE.bindS, RS.bind, lift, mVar, mC, mBin, mUn, mCB, mCons, mNil, mTup, mLst, mLstC, mChain, mAnd, mOr, mNot, mIf, mTru, mCall, mFld, ar, gN, gNils, gConss, gT, List.getElem?_cons_zero, List.getElem?_cons_succ, List.set_cons_zero, List.set_cons_succ, fEqD_int, fNeD_int, fAdd_int, fSub_int, fLt_int, fLe_int, fGt_int, fGe_int, Nat.reduceSub, RSrc.bindS, RSrc.bind, RE.src, RA.src, iSeq, iEnum', Src.items, Nat.reduceAdd, reduceIte]
        exact dr_rt rfl
    · exact absurd rfl ne
  · exact absurd rfl ne
end K16

set_option Elab.async false
set_option linter.all false
set_option maxRecDepth 100000
set_option exponentiation.threshold 10000
namespace K16
open PySem PySem.Spec PyProof.Rows L2 Py
abbrev stD (ms : List Nat) (N : Nat) : D := .tup ((lay (szs ms N) 0).map dP)
abbrev dD (ms : List Nat) (N : Nat) : D := .obj cDigits ["hands", "number", "stretches"] [hD ms, dN N, stD ms N]
def numOf (ms : List Nat) : D → Option Nat
  | .non => leastIt ms 100 1
  | .int n => if 0 < n ∧ (sSum ms n.toNat : Int) ≤ n then some n.toNat else none
  | _ => none
def i_Digits : MI := fun ds h => match ds with
  | [hd, num] => (match hOf hd with
    | some ms => if sumL ms ≤ lcmL ms then (match numOf ms num with
      | some N => .ok [("hands", hD ms), ("number", dN N), ("stretches", stD ms N)]
      | none => .no) else .no
    | none => .no)
  | _ => .no
theorem szs_length (ms : List Nat) (N : Nat) : (szs ms N).length = ms.length := by simp [szs]
theorem nq1 : ¬ (("hands" : Str) = ("number" : Str)) := by decide +kernel
theorem nq2 : ¬ (("hands" : Str) = ("stretches" : Str)) := by decide +kernel
theorem nq3 : ¬ (("number" : Str) = ("stretches" : Str)) := by decide +kernel
theorem me_Digits_init : Meets' 3 3 (m_Digits_init f_need_telling f_least_number f_is_number f_stretch_sizes f_laid_out) (mfInit cDigits i_Digits) := by
  refine meets_init (fun ds h a b e z => ?_) fun h0 ag fs hl lo e => ?_
  · unfold i_Digits at z
    split at z
    · split at z
      · split at z
        · split at z <;> cases z
        · cases z
      · cases z
    · cases z
  · unfold i_Digits at e
    split at e
    · next hd num =>
      split at e
      · next ms e1 =>
        split at e
        · next t =>
          split at e
          · next N e2 =>
            cases e
            obtain ⟨rfl, c⟩ := hOf_eq e1
            have ll : (szs ms N).length ≤ 1000 := by rw [szs_length]; have := (okMs_len c).2; omega
            have N0 : (0 : Int) ≤ (N : Int) := Int.natCast_nonneg N
            refine ⟨[some (.cell h0.length), some (hD ms), some (dN N)], [], ?_, ?_⟩
            · cases num with
              | non =>
                have e3 : leastIt ms 100 1 = some N := e2
                simp only [m_Digits_init, f_need_telling, t, fIs, isNon, f_least_number, e3, f_stretch_sizes, e1, N0, Int.toNat_natCast, f_laid_out, seqF, natsOf_map, if_pos ll, cs_hands, cs_number, cs_stretches, at_end, set_end, putD, List.mem_singleton, true_and, nq1, nq2, nq3, Nat.reduceLT, List.append_nil, RS.bind, startD, List.map_cons, List.map_nil, List.length_cons, List.length_nil, List.replicate_succ, List.replicate_zero, List.cons_append, List.nil_append, List.append_nil, sSeq, sNext, sAsg, sExpr, sRet, sRetN, sIf, sPar, sAug, sFor, sNo, sSetF, RE.bind, RE.bindA, RA.bindA, RA.bind, RE.bindS, RS.bind, lift, mVar, mC, mBin, mUn, mCB, mCons, mNil, mTup, mLst, mLstC, mChain, mAnd, mOr, mNot, mIf, mTru, mCall, mFld, ar, gN, gNils, gConss, gT, List.getElem?_cons_zero, List.getElem?_cons_succ, List.set_cons_zero, List.set_cons_succ, fEqD_int, fNeD_int, fAdd_int, fSub_int, fLt_int, fLe_int, fGt_int, fGe_int, Nat.reduceSub, RSrc.bindS, RSrc.bind, RE.src, RA.src, iSeq, iEnum', Src.items, Nat.reduceAdd, reduceIte]
              | int n =>
                simp only [numOf] at e2
                split at e2
                · next cn =>
                  cases e2
                  obtain ⟨n, rfl⟩ := Int.eq_ofNat_of_zero_le (Int.le_of_lt cn.1)
                  rw [Int.toNat_natCast] at cn ll N0 ⊢
                  have n0 : (0 : Int) ≤ (n : Int) := Int.natCast_nonneg n
                  have nz : ¬ (n : Int) = 0 := by omega
                  have nl : ¬ ((n : Int) < (sSum ms n : Int)) := by omega
                  simp only [m_Digits_init, f_need_telling, t, fIs, isNon, f_is_number, n0, nz, nl, sum_sizes, decide_true, decide_false, Bool.not_true, fEqD_int, f_stretch_sizes, e1, N0, Int.toNat_natCast, f_laid_out, seqF, natsOf_map, if_pos ll, cs_hands, cs_number, cs_stretches, at_end, set_end, putD, List.mem_singleton, true_and, nq1, nq2, nq3, Nat.reduceLT, List.append_nil, RS.bind, startD, List.map_cons, List.map_nil, List.length_cons, List.length_nil, List.replicate_succ, List.replicate_zero, List.cons_append, List.nil_append, List.append_nil, sSeq, sNext, sAsg, sExpr, sRet, sRetN, sIf, sPar, sAug, sFor, sNo, sSetF, RE.bind, RE.bindA, RA.bindA, RA.bind, RE.bindS, RS.bind, lift, mVar, mC, mBin, mUn, mCB, mCons, mNil, mTup, mLst, mLstC, mChain, mAnd, mOr, mNot, mIf, mTru, mCall, mFld, ar, gN, gNils, gConss, gT, List.getElem?_cons_zero, List.getElem?_cons_succ, List.set_cons_zero, List.set_cons_succ, fEqD_int, fNeD_int, fAdd_int, fSub_int, fLt_int, fLe_int, fGt_int, fGe_int, Nat.reduceSub, RSrc.bindS, RSrc.bind, RE.src, RA.src, iSeq, iEnum', Src.items, Nat.reduceAdd, reduceIte]
                · cases e2
              | _ => cases e2
            · simp only [List.map_cons, List.map_nil, D.lows, low_hD, low_lay, Bool.true_and, Bool.and_true]
              rfl
          · cases e
        · cases e
      · cases e
    · cases e
def dOf : D → Option (List Nat × Nat)
  | .obj c ns [hd, .int N, .tup l] => (match hOf hd, prsOf l with
    | some ms, some ps => if c = cDigits ∧ ns = (["hands", "number", "stretches"] : List Str) ∧ 0 < N ∧ N < 2 ^ 4000 ∧ ps = lay (szs ms N.toNat) 0 then some (ms, N.toNat) else none
    | _, _ => none)
  | _ => none
theorem dOf_eq {d : D} {ms : List Nat} {N : Nat} (e : dOf d = some (ms, N)) : d = dD ms N ∧ okMs ms = true ∧ 0 < N ∧ N < 2 ^ 4000 := by
  unfold dOf at e
  split at e
  · next c ns hd N' l =>
    split at e
    · next ms' ps e1 e2 =>
      split at e
      · next cc =>
        cases e
        obtain ⟨rfl, cm⟩ := hOf_eq e1
        obtain ⟨c1, c2, c3, c4, c5⟩ := cc
        obtain ⟨N, rfl⟩ := Int.eq_ofNat_of_zero_le (Int.le_of_lt c3)
        rw [Int.toNat_natCast] at c5 ⊢
        rw [c1, c2, prsOf_eq e2, c5]
        exact ⟨rfl, cm, by omega, by exact_mod_cast c4⟩
      · cases e
    · cases e
  · cases e
theorem dOf_dD {ms : List Nat} {N : Nat} (c : okMs ms = true) (n0 : 0 < N) (nb : N < 2 ^ 4000) : dOf (dD ms N) = some (ms, N) := by
  have a : (0 : Int) < (N : Int) := by omega
  have b : (N : Int) < 2 ^ 4000 := by exact_mod_cast nb
  simp only [dOf, hOf_hD c, prsOf_map, a, b, Int.toNat_natCast, and_self, if_true]
theorem sq1 : (("number" : Str) == ("hands" : Str)) = false := by decide +kernel
theorem sq2 : (("stretches" : Str) == ("hands" : Str)) = false := by decide +kernel
theorem sq3 : (("stretches" : Str) == ("number" : Str)) = false := by decide +kernel
theorem fld_hands (h : CH) (ms : List Nat) (N : Nat) : fieldOf h cs_hands "hands" (dD ms N) = some (hD ms) := by
  simp [fieldOf, cs_hands, List.lookup]
theorem fld_number (h : CH) (ms : List Nat) (N : Nat) : fieldOf h cs_number "number" (dD ms N) = some (dN N) := by
  simp [fieldOf, cs_number, List.lookup, sq1]
theorem fld_stretches (h : CH) (ms : List Nat) (N : Nat) : fieldOf h cs_stretches "stretches" (dD ms N) = some (stD ms N) := by
  simp [fieldOf, cs_stretches, List.lookup, sq2, sq3]
theorem low_dD {n : Nat} (ms : List Nat) (N : Nat) : (dD ms N).low n = true := by
  simp only [D.low, D.lows, lows_nats, Bool.and_self, Bool.and_true, Bool.true_and]
  have := low_lay (n := n) (lay (szs ms N) 0)
  simpa only [D.low] using this
def f_need_place : MF := fun ds h => match ds with | [d, .int p] => (match dOf d with | some (ms, N) => if 0 ≤ p ∧ p < N then .ok (.int p) h else .no | none => .no) | _ => .no
theorem me_need_place : Meets' 2 2 (m_need_place f_is_below) f_need_place := by
  intro ds h hl lo bel ne
  unfold f_need_place at ne ⊢
  split at ne
  · next d p =>
    split at ne
    · next ms N e1 =>
      split at ne
      · next c =>
        obtain ⟨rfl, cm, n0, nb⟩ := dOf_eq e1
        simp only [e1, if_pos c, c, m_need_place, fld_number, f_is_below, decide_true, Bool.and_true, Bool.not_true, startD, List.map_cons, List.map_nil, List.length_cons, List.length_nil, List.replicate_succ, List.replicate_zero, List.cons_append, List.nil_append, List.append_nil, sSeq, sNext, sAsg, sExpr, sRet, sRetN, sIf, sPar, sAug, sFor, sNo, sSetF, RE.bind, RE.bindA, RA.bindA, RA.bind, RE.bindS, RS.bind, lift, mVar, mC, mBin, mUn, mCB, mCons, mNil, mTup, mLst, mLstC, mChain, mAnd, mOr, mNot, mIf, mTru, mCall, mFld, ar, gN, gNils, gConss, gT, List.getElem?_cons_zero, List.getElem?_cons_succ, List.set_cons_zero, List.set_cons_succ, fEqD_int, fNeD_int, fAdd_int, fSub_int, fLt_int, fLe_int, fGt_int, fGe_int, Nat.reduceSub, RSrc.bindS, RSrc.bind, RE.src, RA.src, iSeq, iEnum', Src.items, Nat.reduceAdd, reduceIte]
        exact dr_rt rfl
      · exact absurd rfl ne
    · exact absurd rfl ne
  · exact absurd rfl ne
/-- where the stretch of the hand begins -/
def fst_ (ms : List Nat) (N i : Nat) : Nat := ((szs ms N).take i).sum
theorem st_get {ms : List Nat} {N i m : Nat} (e : ms[i]? = some m) : ((lay (szs ms N) 0).map dP)[i]? = some (dP (fst_ ms N i, fst_ ms N i + (N + m - 1) / m)) := by
  have z : (szs ms N)[i]? = some ((N + m - 1) / m) := by unfold szs; rw [List.getElem?_map, e]; rfl
  rw [List.getElem?_map, lay_get _ 0 i _ z]
  simp [fst_]
def f_step_on : MF := fun ds h => match ds with
  | [d, .int p, .int i] => (match dOf d with
    | some (ms, N) => if 0 ≤ p ∧ 0 ≤ i then (match ms[i.toNat]? with
      | some m => .ok (.tup [dN (fst_ ms N i.toNat + p.toNat / m), dN (p.toNat % m)]) h
      | none => .no) else .no
    | none => .no)
  | _ => .no
theorem me_step_on : Meets' 3 4 m_step_on f_step_on := by
  intro ds h hl lo bel ne
  unfold f_step_on at ne ⊢
  split at ne
  · next d p i =>
    split at ne
    · next ms N e1 =>
      split at ne
      · next c =>
        split at ne
        · next m em =>
          obtain ⟨rfl, cm, n0, nb⟩ := dOf_eq e1
          obtain ⟨p, rfl⟩ := Int.eq_ofNat_of_zero_le c.1
          obtain ⟨i, rfl⟩ := Int.eq_ofNat_of_zero_le c.2
          rw [Int.toNat_natCast] at em
          have hb := okMs_mem cm m (List.mem_of_getElem? em)
          have ix1 : fIx h (tN ms) (dN i) = some (dN m) := fIx_tup (by rw [List.getElem?_map, em]; rfl)
          have ix2 : fIx h (stD ms N) (dN i) = some (dP (fst_ ms N i, fst_ ms N i + (N + m - 1) / m)) := fIx_tup (st_get em)
          have ix3 : fIx h (dP (fst_ ms N i, fst_ ms N i + (N + m - 1) / m)) (.int 0) = some (dN (fst_ ms N i)) := fIx_tup (i := 0) rfl
          simp only [e1, if_pos c, em, Int.toNat_natCast, m_step_on, fld_hands, fld_marks, fld_stretches, ix1, ix2, ix3, fDiv_sm h (i := (p : Int)) (j := (m : Int)) (by omega) (bigs hb.2 b60), fMod_int h (i := (p : Int)) (j := (m : Int)) (by omega), if_pos (two_ok (n := 2) (by decide)), startD, List.map_cons, List.map_nil, List.length_cons, List.length_nil, List.replicate_succ, List.replicate_zero, List.cons_append, List.nil_append, List.append_nil, sSeq, sNext, sAsg, sExpr, sRet, sRetN, sIf, sPar, sAug, sFor, sNo, sSetF, RE.bind, RE.bindA, RA.bindA, RA.bind, RE.bindS, RS.bind, lift, mVar, mC, mBin, mUn, mCB, mCons, mNil, mTup, mLst, mLstC, mChain, mAnd, mOr, mNot, mIf, mTru, mCall, mFld, ar, gN, gNils, gConss, gT, List.getElem?_cons_zero, List.getElem?_cons_succ, List.set_cons_zero, List.set_cons_succ, fEqD_int, fNeD_int, fAdd_int, fSub_int, fLt_int, fLe_int, fGt_int, fGe_int, Nat.reduceSub, RSrc.bindS, RSrc.bind, RE.src, RA.src, iSeq, iEnum', Src.items, Nat.reduceAdd, reduceIte]
          exact dr_rt rfl
        · exact absurd rfl ne
      · exact absurd rfl ne
    · exact absurd rfl ne
  · exact absurd rfl ne
def aheadN (ms : List Nat) (N p i m x : Nat) : Option Nat := if (p - fst_ ms N i) * m + x < N then some ((p - fst_ ms N i) * m + x) else none
def optD : Option Nat → D
  | some n => dN n
  | none => .non
def f_place_ahead : MF := fun ds h => match ds with
  | [d, .int p, .int i, .int x] => (match dOf d with
    | some (ms, N) => if 0 ≤ p ∧ 0 ≤ i ∧ 0 ≤ x ∧ (fst_ ms N i.toNat : Int) ≤ p ∧ p < N then (match ms[i.toNat]? with
      | some m => .ok (optD (aheadN ms N p.toNat i.toNat m x.toNat)) h
      | none => .no) else .no
    | none => .no)
  | _ => .no
theorem me_place_ahead : Meets' 4 5 m_place_ahead f_place_ahead := by
  intro ds h hl lo bel ne
  unfold f_place_ahead at ne ⊢
  split at ne
  · next d p i x =>
    split at ne
    · next ms N e1 =>
      split at ne
      · next c =>
        split at ne
        · next m em =>
          obtain ⟨rfl, cm, n0, nb⟩ := dOf_eq e1
          obtain ⟨c1, c2, c3, c4, c5⟩ := id c
          obtain ⟨p, rfl⟩ := Int.eq_ofNat_of_zero_le c1
          obtain ⟨i, rfl⟩ := Int.eq_ofNat_of_zero_le c2
          obtain ⟨x, rfl⟩ := Int.eq_ofNat_of_zero_le c3
          rw [Int.toNat_natCast] at em c4
          have c' : 0 ≤ (p : Int) ∧ 0 ≤ (i : Int) ∧ 0 ≤ (x : Int) ∧ (fst_ ms N i : Int) ≤ (p : Int) ∧ (p : Int) < (N : Int) := ⟨c1, c2, c3, c4, c5⟩
          have hb := okMs_mem cm m (List.mem_of_getElem? em)
          have ix1 : fIx h (tN ms) (dN i) = some (dN m) := fIx_tup (by rw [List.getElem?_map, em]; rfl)
          have ix2 : fIx h (stD ms N) (dN i) = some (dP (fst_ ms N i, fst_ ms N i + (N + m - 1) / m)) := fIx_tup (st_get em)
          have ix3 : fIx h (dP (fst_ ms N i, fst_ ms N i + (N + m - 1) / m)) (.int 0) = some (dN (fst_ ms N i)) := fIx_tup (i := 0) rfl
          have sub : (p : Int) - (fst_ ms N i : Int) = ((p - fst_ ms N i : Nat) : Int) := by omega
          have sb : ((p - fst_ ms N i : Nat) : Int).natAbs < 2 ^ 8000 := bigs (Nat.le_trans (Nat.sub_le _ _) (by omega : p ≤ N)) nb
          simp only [e1, if_pos c', em, Int.toNat_natCast, m_place_ahead, fld_hands, fld_marks, fld_stretches, fld_number, ix1, ix2, ix3, sub, fMul_sm h sb (bigs hb.2 b60), startD, List.map_cons, List.map_nil, List.length_cons, List.length_nil, List.replicate_succ, List.replicate_zero, List.cons_append, List.nil_append, List.append_nil, sSeq, sNext, sAsg, sExpr, sRet, sRetN, sIf, sPar, sAug, sFor, sNo, sSetF, RE.bind, RE.bindA, RA.bindA, RA.bind, RE.bindS, RS.bind, lift, mVar, mC, mBin, mUn, mCB, mCons, mNil, mTup, mLst, mLstC, mChain, mAnd, mOr, mNot, mIf, mTru, mCall, mFld, ar, gN, gNils, gConss, gT, List.getElem?_cons_zero, List.getElem?_cons_succ, List.set_cons_zero, List.set_cons_succ, fEqD_int, fNeD_int, fAdd_int, fSub_int, fLt_int, fLe_int, fGt_int, fGe_int, Nat.reduceSub, RSrc.bindS, RSrc.bind, RE.src, RA.src, iSeq, iEnum', Src.items, Nat.reduceAdd, reduceIte]
          have e4 : ((p - fst_ ms N i : Nat) : Int) * (m : Int) + (x : Int) = (((p - fst_ ms N i) * m + x : Nat) : Int) := by
            rw [Int.natCast_add, Int.natCast_mul]
          unfold aheadN
          by_cases lt : (p - fst_ ms N i) * m + x < N
          · have lt' : (((p - fst_ ms N i) * m + x : Nat) : Int) < (N : Int) := by omega
            simp only [e4, lt', if_pos lt, decide_true, optD, startD, List.map_cons, List.map_nil, List.length_cons, List.length_nil, List.replicate_succ, List.replicate_zero, List.cons_append, List.nil_append, List.append_nil, sSeq, sNext, sAsg, sExpr, sRet, sRetN, sIf, sPar, sAug, sFor, sNo, sSetF, RE.bind, RE.bindA, RA.bindA, RA.bind, RE.bindS, RS.bind, lift, mVar, mC, mBin, mUn, mCB, mCons, mNil, mTup, mLst, mLstC, mChain, mAnd, mOr, mNot, mIf, mTru, mCall, mFld, ar, gN, gNils, gConss, gT, List.getElem?_cons_zero, List.getElem?_cons_succ, List.set_cons_zero, List.set_cons_succ, fEqD_int, fNeD_int, fAdd_int, fSub_int, fLt_int, fLe_int, fGt_int, fGe_int, Nat.reduceSub, RSrc.bindS, RSrc.bind, RE.src, RA.src, iSeq, iEnum', Src.items, Nat.reduceAdd, reduceIte]
            exact dr_rt rfl
          · have lt' : ¬ ((((p - fst_ ms N i) * m + x : Nat) : Int) < (N : Int)) := by omega
            simp only [e4, lt', if_neg lt, decide_false, optD, startD, List.map_cons, List.map_nil, List.length_cons, List.length_nil, List.replicate_succ, List.replicate_zero, List.cons_append, List.nil_append, List.append_nil, sSeq, sNext, sAsg, sExpr, sRet, sRetN, sIf, sPar, sAug, sFor, sNo, sSetF, RE.bind, RE.bindA, RA.bindA, RA.bind, RE.bindS, RS.bind, lift, mVar, mC, mBin, mUn, mCB, mCons, mNil, mTup, mLst, mLstC, mChain, mAnd, mOr, mNot, mIf, mTru, mCall, mFld, ar, gN, gNils, gConss, gT, List.getElem?_cons_zero, List.getElem?_cons_succ, List.set_cons_zero, List.set_cons_succ, fEqD_int, fNeD_int, fAdd_int, fSub_int, fLt_int, fLe_int, fGt_int, fGe_int, Nat.reduceSub, RSrc.bindS, RSrc.bind, RE.src, RA.src, iSeq, iEnum', Src.items, Nat.reduceAdd, reduceIte]
            exact dr_rt rfl
        · exact absurd rfl ne
      · exact absurd rfl ne
    · exact absurd rfl ne
  · exact absurd rfl ne
end K16

set_option Elab.async false
set_option linter.all false
set_option maxRecDepth 100000
set_option exponentiation.threshold 10000
namespace K16
open PySem PySem.Spec PyProof.Rows L2 Py
/-- a story's way forward: the place, the logs -/
def fwd (ms : List Nat) (N : Nat) : List Nat → Nat → List (List Nat) → Nat × List (List Nat)
  | [], p, L => (p, L)
  | i :: r, p, L => fwd ms N r (fst_ ms N i + p / ms.getD i 1) (L.set i (L.getD i [] ++ [p % ms.getD i 1]))
theorem fwd_append (ms : List Nat) (N : Nat) : ∀ (a b : List Nat) (p : Nat) (L : List (List Nat)), fwd ms N (a ++ b) p L = fwd ms N b (fwd ms N a p L).1 (fwd ms N a p L).2
  | [], b, p, L => rfl
  | i :: a, b, p, L => by
    rw [List.cons_append]
    simp only [fwd]
    exact fwd_append ms N a b _ _
theorem fwd_length (ms : List Nat) (N : Nat) : ∀ (a : List Nat) (p : Nat) (L : List (List Nat)), (fwd ms N a p L).2.length = L.length
  | [], p, L => rfl
  | i :: a, p, L => by
    simp only [fwd]
    rw [fwd_length ms N a]
    simp
theorem fwd_each (ms : List Nat) (N : Nat) : ∀ (a : List Nat) (p : Nat) (L : List (List Nat)) (n : Nat), (∀ lg ∈ L, lg.length ≤ n) → ∀ lg ∈ (fwd ms N a p L).2, lg.length ≤ n + a.length
  | [], p, L, n, h => fun lg m => Nat.le_trans (h lg m) (Nat.le_add_right _ _)
  | i :: a, p, L, n, h => by
    intro lg m
    simp only [fwd] at m
    have := fwd_each ms N a _ _ (n + 1) (fun l ml => ?_) lg m
    · simp; omega
    · rcases List.mem_or_eq_of_mem_set ml with q | q
      · have := h l q; omega
      · subst q
        rw [List.length_append]
        by_cases hi : i < L.length
        · rw [List.getD_eq_getElem?_getD, List.getElem?_eq_getElem hi]
          have := h _ (List.getElem_mem hi)
          simpa using this
        · rw [List.getD_eq_getElem?_getD, List.getElem?_eq_none (by omega)]
          simp
abbrev emp (ms : List Nat) : List (List Nat) := ms.map fun _ => []
def f_digit_logs : MF := fun ds h => match ds with
  | [d, v, .int p] => (match dOf d, seqF v with
    | some (ms, N), some l => (match natsOf l with
      | some st => if st.length ≤ 10000 ∧ (∀ x ∈ st, x < ms.length) ∧ 0 ≤ p ∧ p < N then .ok (.tup [dN (fwd ms N st p.toNat (emp ms)).1, .tup ((fwd ms N st p.toNat (emp ms)).2.map tN)]) h else .no
      | none => .no)
    | _, _ => .no)
  | _ => .no
abbrev cL (L : List (List Nat)) : CH := L.map fun lg => Cell.lst (lg.map dN)
theorem me_digit_logs : Meets' 3 9 (m_digit_logs f_check_story f_need_place f_step_on) f_digit_logs := by
  intro ds h hl lo bel ne
  unfold f_digit_logs at ne ⊢
  split at ne
  · next d v p =>
    split at ne
    · next ms N l e1 e2 =>
      split at ne
      · next st e3 =>
        split at ne
        · next c =>
          obtain ⟨rfl, cm, n0, nb⟩ := dOf_eq e1
          obtain rfl := natsOf_eq e3
          obtain ⟨c1, c2, c3, c4⟩ := id c
          obtain ⟨p, rfl⟩ := Int.eq_ofNat_of_zero_le c3
          have hm := okMs_mem cm
          have hn := okMs_len cm
          have dof := dOf_dD cm n0 nb
          have lc0 : lc_digit_logs_0 f_check_story f_need_place f_step_on [some (dD ms N), some v, some (dN p), some (tN st), none, none, none, none, none] h = .ok (.lst ((List.range ms.length).map fun i => .cell (h.length + i))) (h ++ cL (emp ms)) := by
            have z := mLc_cells (mi := iSeq (mFld cs_marks "marks" (mFld cs_hands "hands" (mVar 0)))) (gm := gN 7) (me := mLstC mNil) (vs := [7]) (s := [some (dD ms N), some v, some (dN p), some (tN st), none, none, none, none, none]) (h := h) (h1 := h) (xs := ms) dN (fun _ => .lst [])
              (by simp only [fld_hands, fld_marks, srcOf, startD, List.map_cons, List.map_nil, List.length_cons, List.length_nil, List.replicate_succ, List.replicate_zero, List.cons_append, List.nil_append, List.append_nil, sSeq, sNext, sAsg, sExpr, sRet, sRetN, sIf, sPar, sAug, sFor, sNo, sSetF, RE.bind, RE.bindA, RA.bindA, RA.bind, RE.bindS, RS.bind, lift, mVar, mC, mBin, mUn, mCB, mCons, mNil, mTup, mLst, mLstC, mChain, mAnd, mOr, mNot, mIf, mTru, mCall, mFld, ar, gN, gNils, gConss, gT, List.getElem?_cons_zero, List.getElem?_cons_succ, List.set_cons_zero, List.set_cons_succ, fEqD_int, fNeD_int, fAdd_int, fSub_int, fLt_int, fLe_int, fGt_int, fGe_int, Nat.reduceSub, RSrc.bindS, RSrc.bind, RE.src, RA.src, iSeq, iEnum', Src.items, Nat.reduceAdd, reduceIte]) (sz_of hn.2) fun y _ => ⟨_, rfl, fun C => by simp only [if_pos (two_ok (n := 0) (by decide)), List.length_append, startD, List.map_cons, List.map_nil, List.length_cons, List.length_nil, List.replicate_succ, List.replicate_zero, List.cons_append, List.nil_append, List.append_nil, sSeq, sNext, sAsg, sExpr, sRet, sRetN, sIf, sPar, sAug, sFor, sNo, sSetF, RE.bind, RE.bindA, RA.bindA, RA.bind, RE.bindS, RS.bind, lift, mVar, mC, mBin, mUn, mCB, mCons, mNil, mTup, mLst, mLstC, mChain, mAnd, mOr, mNot, mIf, mTru, mCall, mFld, ar, gN, gNils, gConss, gT, List.getElem?_cons_zero, List.getElem?_cons_succ, List.set_cons_zero, List.set_cons_succ, fEqD_int, fNeD_int, fAdd_int, fSub_int, fLt_int, fLe_int, fGt_int, fGe_int, Nat.reduceSub, RSrc.bindS, RSrc.bind, RE.src, RA.src, iSeq, iEnum', Src.items, Nat.reduceAdd, reduceIte]⟩
            have em : ms.map (fun _ => Cell.lst []) = cL (emp ms) := by simp [cL, emp]
            rw [em] at z
            exact z
          -- the walk
          obtain ⟨s', h', z, a, b, ez, eh⟩ : ∃ s' h', lp_digit_logs_0 f_check_story f_need_place f_step_on [some (dD ms N), some v, some (dN p), some (tN st), some (.lst ((List.range ms.length).map fun i => .cell (h.length + i))), none, none, none, none] (h ++ cL (emp ms)) = .nx s' h' ∧
              ∃ a b, s' = [some (dD ms N), some v, some (dN (fwd ms N (st.take (st.map dN).length) p (emp ms)).1), some (tN st), some (.lst ((List.range ms.length).map fun i => .cell (h.length + i))), a, b, none, none] ∧ h' = h ++ cL (fwd ms N (st.take (st.map dN).length) p (emp ms)).2 :=
            sFor_all (x := .fix (st.map dN)) (l := st.map dN) (fun i s h' => ∃ a b, s = [some (dD ms N), some v, some (dN (fwd ms N (st.take i) p (emp ms)).1), some (tN st), some (.lst ((List.range ms.length).map fun i => .cell (h.length + i))), a, b, none, none] ∧ h' = h ++ cL (fwd ms N (st.take i) p (emp ms)).2)
              (by simp only [srcOf, startD, List.map_cons, List.map_nil, List.length_cons, List.length_nil, List.replicate_succ, List.replicate_zero, List.cons_append, List.nil_append, List.append_nil, sSeq, sNext, sAsg, sExpr, sRet, sRetN, sIf, sPar, sAug, sFor, sNo, sSetF, RE.bind, RE.bindA, RA.bindA, RA.bind, RE.bindS, RS.bind, lift, mVar, mC, mBin, mUn, mCB, mCons, mNil, mTup, mLst, mLstC, mChain, mAnd, mOr, mNot, mIf, mTru, mCall, mFld, ar, gN, gNils, gConss, gT, List.getElem?_cons_zero, List.getElem?_cons_succ, List.set_cons_zero, List.set_cons_succ, fEqD_int, fNeD_int, fAdd_int, fSub_int, fLt_int, fLe_int, fGt_int, fGe_int, Nat.reduceSub, RSrc.bindS, RSrc.bind, RE.src, RA.src, iSeq, iEnum', Src.items, Nat.reduceAdd, reduceIte]; rfl) ⟨none, none, rfl, rfl⟩ (fun i s h' _ => rfl) (fun i d s h' ⟨a, b, es, eh⟩ ed => by
              subst es eh
              rw [List.getElem?_map] at ed
              obtain ⟨k, ek, rfl⟩ := Option.map_eq_some_iff.mp ed
              have hk := c2 k (List.mem_of_getElem? ek)
              have gm : ms[k]? = some ms[k] := List.getElem?_eq_getElem hk
              have gd : ms.getD k 1 = ms[k] := by rw [List.getD_eq_getElem?_getD, gm]; rfl
              have et : st.take (i + 1) = st.take i ++ [k] := by rw [List.take_succ, ek]; rfl
              generalize hL : (fwd ms N (st.take i) p (emp ms)).2 = L
              generalize hq : (fwd ms N (st.take i) p (emp ms)).1 = q
              have ll : L.length = ms.length := by rw [← hL, fwd_length]; simp
              have le : ∀ lg ∈ L, lg.length ≤ 10000 := by
                intro lg mlg
                rw [← hL] at mlg
                have := fwd_each ms N (st.take i) p (emp ms) 0 (fun x mx => by
                  obtain ⟨_, _, rfl⟩ := List.mem_map.mp mx
                  simp) lg mlg
                have q2 : (st.take i).length ≤ st.length := by rw [List.length_take]; omega
                omega
              have gl : L[k]? = some (L.getD k []) := by rw [List.getD_eq_getElem?_getD, List.getElem?_eq_getElem (by omega)]; rfl
              have gc : (cL L)[k]? = some (.lst ((L.getD k []).map dN)) := by simp only [cL]; rw [List.getElem?_map, gl]; rfl
              have ix : fIx (h ++ cL L) (.lst ((List.range ms.length).map fun i => .cell (h.length + i))) (dN k) = some (.cell (h.length + k)) := fIx_lst (by rw [List.getElem?_map, List.getElem?_range hk]; rfl)
              have sz : ((L.getD k []).map dN).length < sizeLine := by
                rw [List.length_map]
                have := le _ (List.mem_of_getElem? gl)
                have := sz_of (n := 10001) (m := 10001) (Nat.le_refl _)
                omega
              have q0 : (0 : Int) ≤ (q : Int) ∧ (0 : Int) ≤ (k : Int) := ⟨Int.natCast_nonneg _, Int.natCast_nonneg _⟩
              refine ⟨_, [some (dD ms N), some v, some (dN (fst_ ms N k + q / ms[k])), some (tN st), some (.lst ((List.range ms.length).map fun i => .cell (h.length + i))), some (dN k), some (dN (q % ms[k])), none, none], h ++ cL (L.set k (L.getD k [] ++ [q % ms[k]])), rfl, .inl ?_, some (dN k), some (dN (q % ms[k])), ?_, ?_⟩
              · have ec : cL (L.set k (L.getD k [] ++ [q % ms[k]])) = (cL L).set k (.lst ((L.getD k []).map dN ++ [dN (q % ms[k])])) := by
                  simp only [cL]
                  rw [List.map_set, List.map_append]
                  rfl
                simp only [f_step_on, dof, if_pos q0, Int.toNat_natCast, gm, mApp, ix, isLst_off gc, appAt_off gc sz, ec, startD, List.map_cons, List.map_nil, List.length_cons, List.length_nil, List.replicate_succ, List.replicate_zero, List.cons_append, List.nil_append, List.append_nil, sSeq, sNext, sAsg, sExpr, sRet, sRetN, sIf, sPar, sAug, sFor, sNo, sSetF, RE.bind, RE.bindA, RA.bindA, RA.bind, RE.bindS, RS.bind, lift, mVar, mC, mBin, mUn, mCB, mCons, mNil, mTup, mLst, mLstC, mChain, mAnd, mOr, mNot, mIf, mTru, mCall, mFld, ar, gN, gNils, gConss, gT, List.getElem?_cons_zero, List.getElem?_cons_succ, List.set_cons_zero, List.set_cons_succ, fEqD_int, fNeD_int, fAdd_int, fSub_int, fLt_int, fLe_int, fGt_int, fGe_int, Nat.reduceSub, RSrc.bindS, RSrc.bind, RE.src, RA.src, iSeq, iEnum', Src.items, Nat.reduceAdd, reduceIte]
              · rw [et, fwd_append]
                simp only [fwd, hL, hq, gd]
              · rw [et, fwd_append]
                simp only [fwd, hL, hq, gd])
          rw [List.length_map, List.take_length] at ez eh
          subst ez eh
          generalize hL : (fwd ms N st p (emp ms)).2 = L at z
          have ll : L.length = ms.length := by rw [← hL, fwd_length]; simp
          generalize hq : (fwd ms N st p (emp ms)).1 = q at z
          have lc1 : lc_digit_logs_1 f_check_story f_need_place f_step_on [some (dD ms N), some v, some (dN q), some (tN st), some (.lst ((List.range ms.length).map fun i => .cell (h.length + i))), a, b, none, none] (h ++ cL L) = .ok (.lst ((List.range ms.length).map fun i => tN (L.getD i []))) (h ++ cL L) :=
            mLc_all (x := .fix ((List.range ms.length).map fun i => .cell (h.length + i))) (fun i => .cell (h.length + i)) (fun i => tN (L.getD i [])) (by simp only [srcOf, startD, List.map_cons, List.map_nil, List.length_cons, List.length_nil, List.replicate_succ, List.replicate_zero, List.cons_append, List.nil_append, List.append_nil, sSeq, sNext, sAsg, sExpr, sRet, sRetN, sIf, sPar, sAug, sFor, sNo, sSetF, RE.bind, RE.bindA, RA.bindA, RA.bind, RE.bindS, RS.bind, lift, mVar, mC, mBin, mUn, mCB, mCons, mNil, mTup, mLst, mLstC, mChain, mAnd, mOr, mNot, mIf, mTru, mCall, mFld, ar, gN, gNils, gConss, gT, List.getElem?_cons_zero, List.getElem?_cons_succ, List.set_cons_zero, List.set_cons_succ, fEqD_int, fNeD_int, fAdd_int, fSub_int, fLt_int, fLe_int, fGt_int, fGe_int, Nat.reduceSub, RSrc.bindS, RSrc.bind, RE.src, RA.src, iSeq, iEnum', Src.items, Nat.reduceAdd, reduceIte]) rfl (by rw [List.length_range]; exact sz_of hn.2) fun k mk => by
              have hk : k < ms.length := List.mem_range.mp mk
              have gl : L[k]? = some (L.getD k []) := by rw [List.getD_eq_getElem?_getD, List.getElem?_eq_getElem (by omega)]; rfl
              have gc : (cL L)[k]? = some (.lst ((L.getD k []).map dN)) := by simp only [cL]; rw [List.getElem?_map, gl]; rfl
              refine ⟨_, rfl, ?_⟩
              simp only [wipeS, cTuple, lsOf, lstOf_off gc, Option.map_some, startD, List.map_cons, List.map_nil, List.length_cons, List.length_nil, List.replicate_succ, List.replicate_zero, List.cons_append, List.nil_append, List.append_nil, sSeq, sNext, sAsg, sExpr, sRet, sRetN, sIf, sPar, sAug, sFor, sNo, sSetF, RE.bind, RE.bindA, RA.bindA, RA.bind, RE.bindS, RS.bind, lift, mVar, mC, mBin, mUn, mCB, mCons, mNil, mTup, mLst, mLstC, mChain, mAnd, mOr, mNot, mIf, mTru, mCall, mFld, ar, gN, gNils, gConss, gT, List.getElem?_cons_zero, List.getElem?_cons_succ, List.set_cons_zero, List.set_cons_succ, fEqD_int, fNeD_int, fAdd_int, fSub_int, fLt_int, fLe_int, fGt_int, fGe_int, Nat.reduceSub, RSrc.bindS, RSrc.bind, RE.src, RA.src, iSeq, iEnum', Src.items, Nat.reduceAdd, reduceIte]
          have em : ((List.range ms.length).map fun i => tN (L.getD i [])) = L.map tN := by
            apply List.ext_getElem
            · simp [ll]
            · intro i h1 h2
              simp
              rw [List.getElem?_eq_getElem (by simpa using h2)]
              rfl
          rw [em] at lc1
          have f1 := hOf_hD cm
          have c5 : 0 ≤ (p : Int) ∧ (p : Int) < (N : Int) := ⟨c3, c4⟩
          have c6 : st.length ≤ 10000 ∧ ∀ x ∈ st, x < ms.length := ⟨c1, c2⟩
          simp only [e1, e2, e3, if_pos c, Int.toNat_natCast, hL, hq, m_digit_logs, fld_hands, f_check_story, f1, if_pos c6, f_need_place, if_pos c5, lc0, z, lc1, startD, List.map_cons, List.map_nil, List.length_cons, List.length_nil, List.replicate_succ, List.replicate_zero, List.cons_append, List.nil_append, List.append_nil, sSeq, sNext, sAsg, sExpr, sRet, sRetN, sIf, sPar, sAug, sFor, sNo, sSetF, RE.bind, RE.bindA, RA.bindA, RA.bind, RE.bindS, RS.bind, lift, mVar, mC, mBin, mUn, mCB, mCons, mNil, mTup, mLst, mLstC, mChain, mAnd, mOr, mNot, mIf, mTru, mCall, mFld, ar, gN, gNils, gConss, gT, List.getElem?_cons_zero, List.getElem?_cons_succ, List.set_cons_zero, List.set_cons_succ, fEqD_int, fNeD_int, fAdd_int, fSub_int, fLt_int, fLe_int, fGt_int, fGe_int, Nat.reduceSub, RSrc.bindS, RSrc.bind, RE.src, RA.src, iSeq, iEnum', Src.items, Nat.reduceAdd, reduceIte]
          simp only [cTuple, lsOf, lstOf, Option.map_some, if_pos (two_ok (n := 2) (by decide)), startD, List.map_cons, List.map_nil, List.length_cons, List.length_nil, List.replicate_succ, List.replicate_zero, List.cons_append, List.nil_append, List.append_nil, sSeq, sNext, sAsg, sExpr, sRet, sRetN, sIf, sPar, sAug, sFor, sNo, sSetF, RE.bind, RE.bindA, RA.bindA, RA.bind, RE.bindS, RS.bind, lift, mVar, mC, mBin, mUn, mCB, mCons, mNil, mTup, mLst, mLstC, mChain, mAnd, mOr, mNot, mIf, mTru, mCall, mFld, ar, gN, gNils, gConss, gT, List.getElem?_cons_zero, List.getElem?_cons_succ, List.set_cons_zero, List.set_cons_succ, fEqD_int, fNeD_int, fAdd_int, fSub_int, fLt_int, fLe_int, fGt_int, fGe_int, Nat.reduceSub, RSrc.bindS, RSrc.bind, RE.src, RA.src, iSeq, iEnum', Src.items, Nat.reduceAdd, reduceIte]
          refine dr_rtj ?_
          simp only [D.low, D.lows, Bool.and_true, Bool.true_and]
          have := low_logs (n := h.length) L
          simpa only [D.low] using this
        · exact absurd rfl ne
      · exact absurd rfl ne
    · exact absurd rfl ne
  · exact absurd rfl ne
end K16

set_option Elab.async false
set_option linter.all false
set_option maxRecDepth 100000
set_option exponentiation.threshold 10000
namespace K16
open PySem PySem.Spec PyProof.Rows L2 Py
/-- the logs' way back -/
def bwd (ms : List Nat) (N : Nat) (lgs : List (List Nat)) : Nat → Nat → List Nat → List Nat → List Nat × Nat
  | 0, p, _, fd => (fd, p)
  | k + 1, p, cs, fd => if cs.any (fun c => c != 0) = true then (match findS (lay (szs ms N) 0) p with
    | none => (fd, p)
    | some i => if cs.getD i 0 = 0 then (fd, p) else (match aheadN ms N p i (ms.getD i 1) ((lgs.getD i []).getD (cs.getD i 0 - 1) 0) with
      | none => (fd, p)
      | some q => bwd ms N lgs k q (cs.set i (cs.getD i 0 - 1)) (fd ++ [i]))) else (fd, p)
theorem cAny_nats {h C : CH} {i : Nat} {cs : List Nat} (e : C[i]? = some (.lst (cs.map dN))) (ne : cs ≠ []) : cAny (h ++ C) [.cell (h.length + i)] = some (.bl (cs.any fun c => c != 0)) := by
  cases cs with
  | nil => exact absurd rfl ne
  | cons c cs =>
    have b : boolsOf ((c :: cs).map dN) = none := rfl
    simp only [cAny, lsOf, lstOf_off e, b, intsOf_nats, Option.map_some]
    congr 2
    rw [List.any_map]
    congr 1
    funext x
    cases x with
    | zero => rfl
    | succ x =>
      have : ¬ (((x + 1 : Nat) : Int) = 0) := by omega
      simp [bne, this]
      omega
theorem findS_some {ms : List Nat} {N p i : Nat} (e : findS (lay (szs ms N) 0) p = some i) : i < ms.length ∧ fst_ ms N i ≤ p ∧ p < fst_ ms N i + (N + ms.getD i 1 - 1) / ms.getD i 1 := by
  unfold findS at e
  rw [List.findIdx?_eq_some_iff_getElem] at e
  obtain ⟨hj, f1, f2⟩ := e
  have hl : i < ms.length := by rw [lay_length, szs_length] at hj; exact hj
  have gm : ms[i]? = some ms[i] := List.getElem?_eq_getElem hl
  have gd : ms.getD i 1 = ms[i] := by rw [List.getD_eq_getElem?_getD, gm]; rfl
  have z : (szs ms N)[i]? = some ((N + ms[i] - 1) / ms[i]) := by unfold szs; rw [List.getElem?_map, gm]; rfl
  have g := lay_get (szs ms N) 0 i _ z
  rw [List.getElem?_eq_getElem hj] at g
  have g' := Option.some.inj g
  rw [g'] at f1
  simp only [decide_eq_true_eq, Nat.zero_add] at f1
  rw [gd]
  exact ⟨hl, f1.1, f1.2⟩
theorem sum_set : ∀ (cs : List Nat) (i c : Nat), cs[i]? = some (c + 1) → (cs.set i c).sum + 1 = cs.sum
  | [], i, c, e => by simp at e
  | d :: cs, 0, c, e => by simp at e; subst e; simp; omega
  | d :: cs, i + 1, c, e => by
    have := sum_set cs i c (by simpa using e)
    simp only [List.set_cons_succ, List.sum_cons]
    omega
theorem struck_run {ms : List Nat} {N : Nat} {lgs : List (List Nat)} (cm : okMs ms = true) (n0 : 0 < N) (nb : N < 2 ^ 4000) (ok : okLogs ms lgs) (h : CH) (z : Option D) :
    ∀ (k p : Nat) (cs fd : List Nat) (a b : Option D), p < N → cs.length = ms.length → (∀ (i c : Nat) (lg : List Nat), cs[i]? = some c → lgs[i]? = some lg → c ≤ lg.length) → cs.sum < k → fd.length + k ≤ 1000000 →
    ∃ (a' b' : Option D) (cs' : List Nat), whileK (mCB cAny (mCons (mVar 3) mNil)) (sSeq (sAsg (mCall 2 f_stretch_with [] (mCons (mFld cs_stretches "stretches" (mVar 0)) (mCons (mVar 1) mNil))) (gN 5)) (sSeq (sIf (mOr (mBin fIs (mVar 5) (mC .non)) (mBin fEqD (mBin fIx (mVar 3) (mVar 5)) (mC (.int 0)))) (sSeq sBk sNext) sNext) (sSeq (sAsg (mCall 4 f_place_ahead [] (mCons (mVar 0) (mCons (mVar 1) (mCons (mVar 5) (mCons (mBin fIx (mBin fIx (mVar 2) (mVar 5)) (mBin fSub (mBin fIx (mVar 3) (mVar 5)) (mC (.int 1)))) mNil))))) (gN 6)) (sSeq (sIf (mBin fIs (mVar 6) (mC .non)) (sSeq sBk sNext) sNext) (sSeq (sAugAt (fInt fun i j => some (.int (i - j))) (mVar 3) (mVar 5) (mC (.int 1))) (sSeq (sAsg (mVar 6) (gN 1)) (sSeq (sExpr (mApp (mVar 4) (mVar 5))) sNext)))))))
      k [some (dD ms N), some (dN p), some (.tup (lgs.map tN)), some (.cell (h.length + 0)), some (.cell (h.length + 1)), a, b, z] (h ++ [.lst (cs.map dN), .lst (fd.map dN)]) =
      .nx [some (dD ms N), some (dN (bwd ms N lgs k p cs fd).2), some (.tup (lgs.map tN)), some (.cell (h.length + 0)), some (.cell (h.length + 1)), a', b', z] (h ++ [.lst (cs'.map dN), .lst ((bwd ms N lgs k p cs fd).1.map dN)])
  | 0, _, _, _, _, _, _, _, _, hk, _ => absurd hk (Nat.not_lt_zero _)
  | k + 1, p, cs, fd, a, b, pN, lc, le, hk, hf => by
    have hn := okMs_len cm
    have nz : cs ≠ [] := fun e => by rw [e] at lc; simp at lc; omega
    have g0 : ([Cell.lst (cs.map dN), .lst (fd.map dN)] : CH)[0]? = some (.lst (cs.map dN)) := rfl
    have g1 : ([Cell.lst (cs.map dN), .lst (fd.map dN)] : CH)[1]? = some (.lst (fd.map dN)) := rfl
    unfold whileK bwd
    cases hA : cs.any (fun c => c != 0) with
    | false =>
      refine ⟨a, b, cs, ?_⟩
      simp only [cAny_nats g0 nz, hA, startD, List.map_cons, List.map_nil, List.length_cons, List.length_nil, List.replicate_succ, List.replicate_zero, List.cons_append, List.nil_append, List.append_nil, sSeq, sNext, sAsg, sExpr, sRet, sRetN, sIf, sPar, sAug, sFor, sNo, sSetF, RE.bind, RE.bindA, RA.bindA, RA.bind, RE.bindS, RS.bind, lift, mVar, mC, mBin, mUn, mCB, mCons, mNil, mTup, mLst, mLstC, mChain, mAnd, mOr, mNot, mIf, mTru, mCall, mFld, ar, gN, gNils, gConss, gT, List.getElem?_cons_zero, List.getElem?_cons_succ, List.set_cons_zero, List.set_cons_succ, fEqD_int, fNeD_int, fAdd_int, fSub_int, fLt_int, fLe_int, fGt_int, fGe_int, Nat.reduceSub, RSrc.bindS, RSrc.bind, RE.src, RA.src, iSeq, iEnum', Src.items, Nat.reduceAdd, reduceIte]
      simp
    | true =>
      simp only [if_true]
      cases hS : findS (lay (szs ms N) 0) p with
      | none =>
        refine ⟨some .non, b, cs, ?_⟩
        simp only [cAny_nats g0 nz, hA, fld_stretches, f_stretch_with, prsOf_map, if_pos (Int.natCast_nonneg p), Int.toNat_natCast, hS, fIs, isNon, sBk, startD, List.map_cons, List.map_nil, List.length_cons, List.length_nil, List.replicate_succ, List.replicate_zero, List.cons_append, List.nil_append, List.append_nil, sSeq, sNext, sAsg, sExpr, sRet, sRetN, sIf, sPar, sAug, sFor, sNo, sSetF, RE.bind, RE.bindA, RA.bindA, RA.bind, RE.bindS, RS.bind, lift, mVar, mC, mBin, mUn, mCB, mCons, mNil, mTup, mLst, mLstC, mChain, mAnd, mOr, mNot, mIf, mTru, mCall, mFld, ar, gN, gNils, gConss, gT, List.getElem?_cons_zero, List.getElem?_cons_succ, List.set_cons_zero, List.set_cons_succ, fEqD_int, fNeD_int, fAdd_int, fSub_int, fLt_int, fLe_int, fGt_int, fGe_int, Nat.reduceSub, RSrc.bindS, RSrc.bind, RE.src, RA.src, iSeq, iEnum', Src.items, Nat.reduceAdd, reduceIte]
      | some i =>
        obtain ⟨hi, f1, f2⟩ := findS_some hS
        have gm : ms[i]? = some ms[i] := List.getElem?_eq_getElem hi
        have gd : ms.getD i 1 = ms[i] := by rw [List.getD_eq_getElem?_getD, gm]; rfl
        have gc : cs[i]? = some (cs.getD i 0) := by rw [List.getD_eq_getElem?_getD, List.getElem?_eq_getElem (by omega)]; rfl
        have gl : lgs[i]? = some (lgs.getD i []) := by rw [List.getD_eq_getElem?_getD, List.getElem?_eq_getElem (by rw [ok.1]; exact hi)]; rfl
        have ixc : fIx (h ++ [.lst (cs.map dN), .lst (fd.map dN)]) (.cell (h.length + 0)) (dN i) = some (dN (cs.getD i 0)) := by
          simp only [fIx, seqOf, lstOf_off g0]
          exact atI_nat (by rw [List.getElem?_map, gc]; rfl)
        dsimp only
        generalize hc : cs.getD i 0 = c at gc ixc ⊢
        cases c with
        | zero =>
          refine ⟨some (dN i), b, cs, ?_⟩
          simp only [cAny_nats g0 nz, hA, fld_stretches, f_stretch_with, prsOf_map, if_pos (Int.natCast_nonneg p), Int.toNat_natCast, hS, fIs, isNon, ixc, Int.natCast_zero, decide_true, if_true, sBk, startD, List.map_cons, List.map_nil, List.length_cons, List.length_nil, List.replicate_succ, List.replicate_zero, List.cons_append, List.nil_append, List.append_nil, sSeq, sNext, sAsg, sExpr, sRet, sRetN, sIf, sPar, sAug, sFor, sNo, sSetF, RE.bind, RE.bindA, RA.bindA, RA.bind, RE.bindS, RS.bind, lift, mVar, mC, mBin, mUn, mCB, mCons, mNil, mTup, mLst, mLstC, mChain, mAnd, mOr, mNot, mIf, mTru, mCall, mFld, ar, gN, gNils, gConss, gT, List.getElem?_cons_zero, List.getElem?_cons_succ, List.set_cons_zero, List.set_cons_succ, fEqD_int, fNeD_int, fAdd_int, fSub_int, fLt_int, fLe_int, fGt_int, fGe_int, Nat.reduceSub, RSrc.bindS, RSrc.bind, RE.src, RA.src, iSeq, iEnum', Src.items, Nat.reduceAdd, reduceIte]
        | succ c =>
          have cl := le i (c + 1) _ gc gl
          have gx : (lgs.getD i [])[c]? = some ((lgs.getD i []).getD c 0) := by rw [List.getD_eq_getElem?_getD (l := lgs.getD i []), List.getElem?_eq_getElem (by omega)]; rfl
          have ixl : fIx (h ++ [.lst (cs.map dN), .lst (fd.map dN)]) (.tup (lgs.map tN)) (dN i) = some (tN (lgs.getD i [])) := fIx_tup (by rw [List.getElem?_map, gl]; rfl)
          have ixx : fIx (h ++ [.lst (cs.map dN), .lst (fd.map dN)]) (tN (lgs.getD i [])) (dN c) = some (dN ((lgs.getD i []).getD c 0)) := fIx_tup (by rw [List.getElem?_map, gx]; rfl)
          have sb : (((c + 1 : Nat) : Int) - 1) = (c : Int) := by omega
          have nz1 : ¬ (((c + 1 : Nat) : Int) = 0) := by omega
          have cc : 0 ≤ (p : Int) ∧ 0 ≤ (i : Int) ∧ 0 ≤ ((((lgs.getD i []).getD c 0 : Nat)) : Int) ∧ (fst_ ms N i : Int) ≤ (p : Int) ∧ (p : Int) < (N : Int) := ⟨by omega, by omega, by omega, by omega, by omega⟩
          have dof := dOf_dD cm n0 nb
          rw [if_neg (Nat.succ_ne_zero c)]
          simp only [Nat.add_sub_cancel, gd]
          cases hH : aheadN ms N p i ms[i] ((lgs.getD i []).getD c 0) with
          | none =>
            refine ⟨some (dN i), some .non, cs, ?_⟩
            simp only [cAny_nats g0 nz, hA, fld_stretches, f_stretch_with, prsOf_map, if_pos (Int.natCast_nonneg p), Int.toNat_natCast, hS, fIs, isNon, ixc, nz1, decide_false, if_true, ixl, sb, ixx, f_place_ahead, dof, if_pos cc, gm, hH, optD, sBk, startD, List.map_cons, List.map_nil, List.length_cons, List.length_nil, List.replicate_succ, List.replicate_zero, List.cons_append, List.nil_append, List.append_nil, sSeq, sNext, sAsg, sExpr, sRet, sRetN, sIf, sPar, sAug, sFor, sNo, sSetF, RE.bind, RE.bindA, RA.bindA, RA.bind, RE.bindS, RS.bind, lift, mVar, mC, mBin, mUn, mCB, mCons, mNil, mTup, mLst, mLstC, mChain, mAnd, mOr, mNot, mIf, mTru, mCall, mFld, ar, gN, gNils, gConss, gT, List.getElem?_cons_zero, List.getElem?_cons_succ, List.set_cons_zero, List.set_cons_succ, fEqD_int, fNeD_int, fAdd_int, fSub_int, fLt_int, fLe_int, fGt_int, fGe_int, Nat.reduceSub, RSrc.bindS, RSrc.bind, RE.src, RA.src, iSeq, iEnum', Src.items, Nat.reduceAdd, reduceIte]
          | some q =>
            have qN : q < N := by
              unfold aheadN at hH
              split at hH
              · next lt => cases hH; exact lt
              · cases hH
            have lc2 : (cs.set i c).length = ms.length := by rw [List.length_set]; exact lc
            have ss := sum_set cs i c gc
            obtain ⟨a', b', cs', w⟩ := struck_run cm n0 nb ok h z k q (cs.set i c) (fd ++ [i]) (some (dN i)) (some (dN q)) qN lc2 (fun j d lg e1 e2 => by
              by_cases hj : i = j
              · subst hj
                rw [List.getElem?_set_self (by omega)] at e1
                cases e1
                rw [gl] at e2
                cases e2
                omega
              · rw [List.getElem?_set_ne hj] at e1
                exact le j d lg e1 e2) (by omega) (by rw [List.length_append]; simp; omega)
            refine ⟨a', b', cs', ?_⟩
            rw [← w]
            have pa : putAt (h ++ [.lst (cs.map dN), .lst (fd.map dN)]) (.cell (h.length + 0)) (dN i) (.int (((c + 1 : Nat) : Int) - 1)) = some (h ++ [.lst ((cs.set i c).map dN), .lst (fd.map dN)]) := by
              rw [putAt_off g0 (by rw [List.length_map]; omega), sb]
              rw [List.map_set]
              rfl
            have il : isLst (h ++ [.lst ((cs.set i c).map dN), .lst (fd.map dN)]) (.cell (h.length + 1)) = true := isLst_off (i := 1) rfl
            have ap : appAt (h ++ [.lst ((cs.set i c).map dN), .lst (fd.map dN)]) (.cell (h.length + 1)) (dN i) = some (h ++ [.lst ((cs.set i c).map dN), .lst ((fd ++ [i]).map dN)]) := by
              rw [appAt_off (i := 1) rfl (by rw [List.length_map]; have := sz_of (n := fd.length + 1) (m := 1000000) (by omega); omega)]
              rw [List.map_append]
              rfl
            have ixc2 : ixL (h ++ [.lst (cs.map dN), .lst (fd.map dN)]) (.cell (h.length + 0)) (dN i) = some (dN (c + 1)) := by
              simp only [ixL, lsOf, lstOf_off g0]
              exact atI_nat (by rw [List.getElem?_map, gc]; rfl)
            simp only [cAny_nats g0 nz, hA, fld_stretches, f_stretch_with, prsOf_map, if_pos (Int.natCast_nonneg p), Int.toNat_natCast, hS, fIs, isNon, ixc, nz1, decide_false, if_true, ixl, sb, ixx, f_place_ahead, dof, if_pos cc, gm, hH, optD, sAugAt, ixc2, fInt, mApp, startD, List.map_cons, List.map_nil, List.length_cons, List.length_nil, List.replicate_succ, List.replicate_zero, List.cons_append, List.nil_append, List.append_nil, sSeq, sNext, sAsg, sExpr, sRet, sRetN, sIf, sPar, sAug, sFor, sNo, sSetF, RE.bind, RE.bindA, RA.bindA, RA.bind, RE.bindS, RS.bind, lift, mVar, mC, mBin, mUn, mCB, mCons, mNil, mTup, mLst, mLstC, mChain, mAnd, mOr, mNot, mIf, mTru, mCall, mFld, ar, gN, gNils, gConss, gT, List.getElem?_cons_zero, List.getElem?_cons_succ, List.set_cons_zero, List.set_cons_succ, fEqD_int, fNeD_int, fAdd_int, fSub_int, fLt_int, fLe_int, fGt_int, fGe_int, Nat.reduceSub, RSrc.bindS, RSrc.bind, RE.src, RA.src, iSeq, iEnum', Src.items, Nat.reduceAdd, reduceIte]
            rw [sb] at pa
            simp only [pa, il, ap, mApp, startD, List.map_cons, List.map_nil, List.length_cons, List.length_nil, List.replicate_succ, List.replicate_zero, List.cons_append, List.nil_append, List.append_nil, sSeq, sNext, sAsg, sExpr, sRet, sRetN, sIf, sPar, sAug, sFor, sNo, sSetF, RE.bind, RE.bindA, RA.bindA, RA.bind, RE.bindS, RS.bind, lift, mVar, mC, mBin, mUn, mCB, mCons, mNil, mTup, mLst, mLstC, mChain, mAnd, mOr, mNot, mIf, mTru, mCall, mFld, ar, gN, gNils, gConss, gT, List.getElem?_cons_zero, List.getElem?_cons_succ, List.set_cons_zero, List.set_cons_succ, fEqD_int, fNeD_int, fAdd_int, fSub_int, fLt_int, fLe_int, fGt_int, fGe_int, Nat.reduceSub, RSrc.bindS, RSrc.bind, RE.src, RA.src, iSeq, iEnum', Src.items, Nat.reduceAdd, reduceIte]
open Classical in
noncomputable def f_struck_digits : MF := fun ds h => match ds with
  | [d, .int p, .tup l] => (match dOf d, logsOf l with
    | some (ms, N), some lgs => if l = lgs.map tN ∧ okLogs ms lgs ∧ 0 ≤ p ∧ p < N ∧ (lgs.map List.length).sum < 1000 then .ok (.tup [tN ((bwd ms N lgs 1000 p.toNat (lgs.map List.length) []).1.reverse), dN (bwd ms N lgs 1000 p.toNat (lgs.map List.length) []).2]) h else .no
    | _, _ => .no)
  | _ => .no
theorem me_struck_digits : Meets' 3 8 (m_struck_digits f_stretch_with f_place_ahead) f_struck_digits := by
  intro ds h hl lo bel ne
  unfold f_struck_digits at ne ⊢
  split at ne
  · next d p l =>
    split at ne
    · next ms N lgs e1 e2 =>
      split at ne
      · next c =>
        obtain ⟨rfl, cm, n0, nb⟩ := dOf_eq e1
        obtain ⟨c1, c2, c3, c4, c5⟩ := id c
        subst c1
        obtain ⟨p, rfl⟩ := Int.eq_ofNat_of_zero_le c3
        have hn := okMs_len cm
        have lc : lc_struck_digits_0 f_stretch_with f_place_ahead [some (dD ms N), some (dN p), some (.tup (lgs.map tN)), none, none, none, none, none] h = .ok (.cell (h.length + 0)) (h ++ [.lst ((lgs.map List.length).map dN)]) := by
          have z := mLcC_all (mi := iSeq (mVar 2)) (gm := gN 7) (me := mCB cLen (mCons (mVar 7) mNil)) (vs := [7]) (s := [some (dD ms N), some (dN p), some (.tup (lgs.map tN)), none, none, none, none, none]) (h := h) (h1 := h) (x := .fix (lgs.map tN)) tN (fun lg => dN lg.length)
            (by simp only [srcOf, startD, List.map_cons, List.map_nil, List.length_cons, List.length_nil, List.replicate_succ, List.replicate_zero, List.cons_append, List.nil_append, List.append_nil, sSeq, sNext, sAsg, sExpr, sRet, sRetN, sIf, sPar, sAug, sFor, sNo, sSetF, RE.bind, RE.bindA, RA.bindA, RA.bind, RE.bindS, RS.bind, lift, mVar, mC, mBin, mUn, mCB, mCons, mNil, mTup, mLst, mLstC, mChain, mAnd, mOr, mNot, mIf, mTru, mCall, mFld, ar, gN, gNils, gConss, gT, List.getElem?_cons_zero, List.getElem?_cons_succ, List.set_cons_zero, List.set_cons_succ, fEqD_int, fNeD_int, fAdd_int, fSub_int, fLt_int, fLe_int, fGt_int, fGe_int, Nat.reduceSub, RSrc.bindS, RSrc.bind, RE.src, RA.src, iSeq, iEnum', Src.items, Nat.reduceAdd, reduceIte]) rfl (sz_of (n := lgs.length) (m := 8) (by have := c2.1; omega)) fun lg mg => ⟨_, rfl, by simp only [wipeS, cLen, seqOf, Option.map_some, List.length_map, startD, List.map_cons, List.map_nil, List.length_cons, List.length_nil, List.replicate_succ, List.replicate_zero, List.cons_append, List.nil_append, List.append_nil, sSeq, sNext, sAsg, sExpr, sRet, sRetN, sIf, sPar, sAug, sFor, sNo, sSetF, RE.bind, RE.bindA, RA.bindA, RA.bind, RE.bindS, RS.bind, lift, mVar, mC, mBin, mUn, mCB, mCons, mNil, mTup, mLst, mLstC, mChain, mAnd, mOr, mNot, mIf, mTru, mCall, mFld, ar, gN, gNils, gConss, gT, List.getElem?_cons_zero, List.getElem?_cons_succ, List.set_cons_zero, List.set_cons_succ, fEqD_int, fNeD_int, fAdd_int, fSub_int, fLt_int, fLe_int, fGt_int, fGe_int, Nat.reduceSub, RSrc.bindS, RSrc.bind, RE.src, RA.src, iSeq, iEnum', Src.items, Nat.reduceAdd, reduceIte]⟩
          have em : (lgs.map List.length).map dN = lgs.map fun lg => dN lg.length := by rw [List.map_map]; rfl
          rw [em]
          exact z
        have ll : (lgs.map List.length).length = ms.length := by rw [List.length_map]; exact c2.1
        obtain ⟨a, b, cs', w⟩ := struck_run cm n0 nb c2 h none 1000 p (lgs.map List.length) [] none none (by omega) ll (fun i c lg e1 e2 => by
          rw [List.getElem?_map, e2] at e1
          cases e1
          exact Nat.le_refl _) c5 (by simp)
        have w2 : wh_struck_digits_0 f_stretch_with f_place_ahead [some (dD ms N), some (dN p), some (.tup (lgs.map tN)), some (.cell (h.length + 0)), some (.cell (h.length + 1)), none, none, none] (h ++ [.lst ((lgs.map List.length).map dN), .lst []]) = _ := w
        have al : (h ++ [Cell.lst ((lgs.map List.length).map dN)]).length = h.length + 1 := by simp
        have aa : h ++ [Cell.lst ((lgs.map List.length).map dN)] ++ [.lst []] = h ++ [.lst ((lgs.map List.length).map dN), .lst []] := by simp
        simp only [e1, e2, if_pos c, Int.toNat_natCast, m_struck_digits, lc, if_pos (two_ok (n := 0) (by decide)), al, aa, startD, List.map_cons, List.map_nil, List.length_cons, List.length_nil, List.replicate_succ, List.replicate_zero, List.cons_append, List.nil_append, List.append_nil, sSeq, sNext, sAsg, sExpr, sRet, sRetN, sIf, sPar, sAug, sFor, sNo, sSetF, RE.bind, RE.bindA, RA.bindA, RA.bind, RE.bindS, RS.bind, lift, mVar, mC, mBin, mUn, mCB, mCons, mNil, mTup, mLst, mLstC, mChain, mAnd, mOr, mNot, mIf, mTru, mCall, mFld, ar, gN, gNils, gConss, gT, List.getElem?_cons_zero, List.getElem?_cons_succ, List.set_cons_zero, List.set_cons_succ, fEqD_int, fNeD_int, fAdd_int, fSub_int, fLt_int, fLe_int, fGt_int, fGe_int, Nat.reduceSub, RSrc.bindS, RSrc.bind, RE.src, RA.src, iSeq, iEnum', Src.items, Nat.reduceAdd, reduceIte]
        rw [w2]
        have lo2 : lsOf (h ++ [.lst (cs'.map dN), .lst ((bwd ms N lgs 1000 p (lgs.map List.length) []).1.map dN)]) (.cell (h.length + 1)) = some ((bwd ms N lgs 1000 p (lgs.map List.length) []).1.map dN) := by
          simp only [lsOf]
          exact lstOf_off (i := 1) rfl
        simp only [mTRev, lo2, Option.map_some, if_pos (two_ok (n := 2) (by decide)), startD, List.map_cons, List.map_nil, List.length_cons, List.length_nil, List.replicate_succ, List.replicate_zero, List.cons_append, List.nil_append, List.append_nil, sSeq, sNext, sAsg, sExpr, sRet, sRetN, sIf, sPar, sAug, sFor, sNo, sSetF, RE.bind, RE.bindA, RA.bindA, RA.bind, RE.bindS, RS.bind, lift, mVar, mC, mBin, mUn, mCB, mCons, mNil, mTup, mLst, mLstC, mChain, mAnd, mOr, mNot, mIf, mTru, mCall, mFld, ar, gN, gNils, gConss, gT, List.getElem?_cons_zero, List.getElem?_cons_succ, List.set_cons_zero, List.set_cons_succ, fEqD_int, fNeD_int, fAdd_int, fSub_int, fLt_int, fLe_int, fGt_int, fGe_int, Nat.reduceSub, RSrc.bindS, RSrc.bind, RE.src, RA.src, iSeq, iEnum', Src.items, Nat.reduceAdd, reduceIte]
        rw [← List.map_reverse]
        refine dr_rtj ?_
        simp only [D.low, D.lows, Bool.and_true, lows_nats]
      · exact absurd rfl ne
    · exact absurd rfl ne
  · exact absurd rfl ne
open Classical in
noncomputable def f_digit_story : MF := fun ds h => match ds with
  | [d, .int p, v] => (match dOf d, seqF v with
    | some (ms, N), some l => (match logsOf l with
      | some lgs => if okLogs ms lgs ∧ 0 ≤ p ∧ p < N ∧ (lgs.map List.length).sum < 1000 then .ok (.tup [tN ((bwd ms N lgs 1000 p.toNat (lgs.map List.length) []).1.reverse), dN (bwd ms N lgs 1000 p.toNat (lgs.map List.length) []).2]) h else .no
      | none => .no)
    | _, _ => .no)
  | _ => .no
theorem logsOf_tN : ∀ lgs : List (List Nat), logsOf (lgs.map tN) = some lgs
  | [] => rfl
  | lg :: r => by
    rw [List.map_cons]
    simp only [logsOf, seqF, natsOf_map, logsOf_tN r, Option.map_some]
theorem me_digit_story : Meets' 3 3 (m_digit_story f_need_place f_struck_digits f_check_logs) f_digit_story := by
  intro ds h hl lo bel ne
  unfold f_digit_story at ne ⊢
  split at ne
  · next d p v =>
    split at ne
    · next ms N l e1 e2 =>
      split at ne
      · next lgs e3 =>
        split at ne
        · next c =>
          obtain ⟨rfl, cm, n0, nb⟩ := dOf_eq e1
          obtain ⟨c2, c3, c4, c5⟩ := id c
          have c6 : 0 ≤ p ∧ p < (N : Int) := ⟨c3, c4⟩
          have c7 : lgs.map tN = lgs.map tN ∧ okLogs ms lgs ∧ 0 ≤ p ∧ p < (N : Int) ∧ (lgs.map List.length).sum < 1000 := ⟨rfl, c⟩
          have f1 := hOf_hD cm
          simp only [e1, e2, e3, if_pos c, m_digit_story, f_need_place, if_pos c6, fld_hands, f_check_logs, f1, if_pos c2, f_struck_digits, logsOf_tN, if_pos c7, startD, List.map_cons, List.map_nil, List.length_cons, List.length_nil, List.replicate_succ, List.replicate_zero, List.cons_append, List.nil_append, List.append_nil, sSeq, sNext, sAsg, sExpr, sRet, sRetN, sIf, sPar, sAug, sFor, sNo, sSetF, RE.bind, RE.bindA, RA.bindA, RA.bind, RE.bindS, RS.bind, lift, mVar, mC, mBin, mUn, mCB, mCons, mNil, mTup, mLst, mLstC, mChain, mAnd, mOr, mNot, mIf, mTru, mCall, mFld, ar, gN, gNils, gConss, gT, List.getElem?_cons_zero, List.getElem?_cons_succ, List.set_cons_zero, List.set_cons_succ, fEqD_int, fNeD_int, fAdd_int, fSub_int, fLt_int, fLe_int, fGt_int, fGe_int, Nat.reduceSub, RSrc.bindS, RSrc.bind, RE.src, RA.src, iSeq, iEnum', Src.items, Nat.reduceAdd, reduceIte]
          refine dr_rt ?_
          simp only [D.low, D.lows, Bool.and_true, lows_nats]
        · exact absurd rfl ne
      · exact absurd rfl ne
    · exact absurd rfl ne
  · exact absurd rfl ne
end K16

set_option Elab.async false
set_option linter.all false
set_option maxRecDepth 100000
set_option exponentiation.threshold 10000
namespace K16
open PySem PySem.Spec PyProof.Rows L2 Py
abbrev bC (g r : Int) : Cell := .lst [.int g, .int r]
def okB (g r : Int) : Prop := 0 ≤ g ∧ 1 ≤ r ∧ r ≤ 2147483587
instance (g r : Int) : Decidable (okB g r) := by unfold okB; infer_instance
def absI (i : Int) : Int := if i < 0 then -i else i
def cellI (ns : List Int) (k : Nat) : Int := if k < ns.length then absI (ns.getD k 0) else if 0 < ns.length then 6737 * (k : Int) + 823 + absI (ns.getD (k % ns.length) 0) % 2147483587 * 52433 else 6737 * (k : Int) + 823
def greatI (ns : List Int) (k : Nat) : Int := if 10 ^ 18 ≤ cellI ns k then cellI ns k else 0
def restI (ns : List Int) (k : Nat) : Int := (cellI ns k % 2147483587 * 69069 + 823 * (k : Int)) % 2147483587 + 1
def f__law_box : MF := fun ds h => match ds with
  | [.scr ns, .int k] => if 0 ≤ k ∧ k < 1000 then .ok (.cell h.length) (h ++ [bC (greatI ns k.toNat) (restI ns k.toNat)]) else .no
  | _ => .no
theorem sm {i : Int} (h : -(2 ^ 200) < i) (h2 : i < 2 ^ 200) : i.natAbs < 2 ^ 8000 := by
  have a : i.natAbs < 2 ^ 200 := by omega
  exact Nat.lt_trans a (Nat.pow_lt_pow_right (by decide) (by decide))
theorem md {i : Int} : -(2 ^ 200) < i % 2147483587 ∧ i % 2147483587 < 2 ^ 200 := by
  have := Int.emod_nonneg i (show (2147483587 : Int) ≠ 0 by decide)
  have := Int.emod_lt_of_pos i (show (0 : Int) < 2147483587 by decide)
  omega
theorem dr_new {h : CH} {c : Cell} (l : c.low (h.length + 1) = true) : Drops h (.rt (.cell h.length) (h ++ [c])) (.ok (.cell h.length) (h ++ [c])) := by
  refine ⟨⟨⟨[], by simp⟩, by simp, fun d m => ?_⟩, .low (by simp [D.low])⟩
  rcases List.mem_append.mp m with q | q
  · exact .inl q
  · rw [List.mem_singleton.mp q]
    exact .inr (by simpa using l)
theorem fIx_scr {h : CH} {ns : List Int} {i : Nat} (hi : i < ns.length) : fIx h (.scr ns) (dN i) = some (.int (ns.getD i 0)) := by
  simp only [fIx, seqOf]
  refine atI_nat ?_
  rw [List.getElem?_map, List.getElem?_eq_getElem hi, List.getD_eq_getElem?_getD, List.getElem?_eq_getElem hi]
  rfl
theorem fPow18 (h : CH) : fPow h (.int 10) (.int 18) = some (.int (10 ^ 18)) := by
  simp only [fPow, fInt]
  rw [if_pos (by decide)]
  rfl
theorem cAbs_int (h : CH) (i : Int) : cAbs h [.int i] = some (.int (absI i)) := rfl
theorem cInt_int (h : CH) (i : Int) : cInt h [.int i] = some (.int i) := rfl
theorem cLen_scr (h : CH) (ns : List Int) : cLen h [.scr ns] = some (.int ns.length) := by
  simp [cLen, seqOf]
theorem me__law_box : Meets' 2 4 m__law_box f__law_box := by
  intro ds h hl lo bel ne
  unfold f__law_box at ne ⊢
  split at ne
  · next ns k =>
    split at ne
    · next c =>
      obtain ⟨k, rfl⟩ := Int.eq_ofNat_of_zero_le c.1
      have kb : (k : Int) < 1000 := c.2
      have p1 : (0 : Int) < 2147483587 := by decide
      have e1 : fMul h (.int 6737) (.int (k : Int)) = some (.int (6737 * (k : Int))) := fMul_sm h (by decide) (sm (by omega) (by omega))
      have e2 : fMul h (.int 823) (.int (k : Int)) = some (.int (823 * (k : Int))) := fMul_sm h (by decide) (sm (by omega) (by omega))
      have e3 : ∀ i : Int, fMul h (.int (i % 2147483587)) (.int 52433) = some (.int (i % 2147483587 * 52433)) := fun i => fMul_sm h (sm md.1 md.2) (by decide)
      have e4 : ∀ i : Int, fMul h (.int (i % 2147483587)) (.int 69069) = some (.int (i % 2147483587 * 69069)) := fun i => fMul_sm h (sm md.1 md.2) (by decide)
      have tail : ∀ (z : Int), z = cellI ns k → Drops h ((sSeq (sAsg (mIf (mBin fGe (mVar 2) (mBin fPow (mC (.int 10)) (mC (.int 18)))) (mVar 2) (mC (.int 0))) (gN 3)) (sSeq (sRet (mLstC (mCons (mVar 3) (mCons (mBin fAdd (mBin fMod (mCB cInt (mCons (mBin fAdd (mBin fMul (mBin fMod (mCB cInt (mCons (mVar 2) mNil)) (mC (.int 2147483587))) (mC (.int 69069))) (mBin fMul (mC (.int 823)) (mVar 1))) mNil)) (mC (.int 2147483587))) (mC (.int 1))) mNil)))) sNext)) [some (.scr ns), some (dN k), some (.int z), none] h)
          (.ok (.cell h.length) (h ++ [bC (greatI ns k) (restI ns k)])) := by
        intro z ez
        unfold greatI restI
        rw [← ez]
        by_cases g : 10 ^ 18 ≤ z
        · simp only [fPow18, g, decide_true, cInt_int, fMod_int h p1, e2, e4, if_true, if_pos (two_ok (n := 2) (by decide)), startD, List.map_cons, List.map_nil, List.length_cons, List.length_nil, List.replicate_succ, List.replicate_zero, List.cons_append, List.nil_append, List.append_nil, sSeq, sNext, sAsg, sExpr, sRet, sRetN, sIf, sPar, sAug, sFor, sNo, sSetF, RE.bind, RE.bindA, RA.bindA, RA.bind, RE.bindS, RS.bind, lift, mVar, mC, mBin, mUn, mCB, mCons, mNil, mTup, mLst, mLstC, mChain, mAnd, mOr, mNot, mIf, mTru, mCall, mFld, ar, gN, gNils, gConss, gT, List.getElem?_cons_zero, List.getElem?_cons_succ, List.set_cons_zero, List.set_cons_succ, fEqD_int, fNeD_int, fAdd_int, fSub_int, fLt_int, fLe_int, fGt_int, fGe_int, Nat.reduceSub, RSrc.bindS, RSrc.bind, RE.src, RA.src, iSeq, iEnum', Src.items, Nat.reduceAdd, reduceIte]
          exact dr_new rfl
        · simp only [fPow18, g, decide_false, cInt_int, fMod_int h p1, e2, e4, if_false, if_pos (two_ok (n := 2) (by decide)), startD, List.map_cons, List.map_nil, List.length_cons, List.length_nil, List.replicate_succ, List.replicate_zero, List.cons_append, List.nil_append, List.append_nil, sSeq, sNext, sAsg, sExpr, sRet, sRetN, sIf, sPar, sAug, sFor, sNo, sSetF, RE.bind, RE.bindA, RA.bindA, RA.bind, RE.bindS, RS.bind, lift, mVar, mC, mBin, mUn, mCB, mCons, mNil, mTup, mLst, mLstC, mChain, mAnd, mOr, mNot, mIf, mTru, mCall, mFld, ar, gN, gNils, gConss, gT, List.getElem?_cons_zero, List.getElem?_cons_succ, List.set_cons_zero, List.set_cons_succ, fEqD_int, fNeD_int, fAdd_int, fSub_int, fLt_int, fLe_int, fGt_int, fGe_int, Nat.reduceSub, RSrc.bindS, RSrc.bind, RE.src, RA.src, iSeq, iEnum', Src.items, Nat.reduceAdd, reduceIte]
          exact dr_new rfl
      simp only [if_pos c, Int.toNat_natCast]
      unfold m__law_box
      by_cases h1 : k < ns.length
      · have q1 : (k : Int) < (ns.length : Int) := by omega
        have t := tail (absI (ns.getD k 0)) (by unfold cellI; rw [if_pos h1])
        simp only [cLen_scr, q1, decide_true, fIx_scr h1, cInt_int, cAbs_int, e1, startD, List.map_cons, List.map_nil, List.length_cons, List.length_nil, List.replicate_succ, List.replicate_zero, List.cons_append, List.nil_append, List.append_nil, sSeq, sNext, sAsg, sExpr, sRet, sRetN, sIf, sPar, sAug, sFor, sNo, sSetF, RE.bind, RE.bindA, RA.bindA, RA.bind, RE.bindS, RS.bind, lift, mVar, mC, mBin, mUn, mCB, mCons, mNil, mTup, mLst, mLstC, mChain, mAnd, mOr, mNot, mIf, mTru, mCall, mFld, ar, gN, gNils, gConss, gT, List.getElem?_cons_zero, List.getElem?_cons_succ, List.set_cons_zero, List.set_cons_succ, fEqD_int, fNeD_int, fAdd_int, fSub_int, fLt_int, fLe_int, fGt_int, fGe_int, Nat.reduceSub, RSrc.bindS, RSrc.bind, RE.src, RA.src, iSeq, iEnum', Src.items, Nat.reduceAdd, reduceIte] at t ⊢
        exact t
      · have q1 : ¬ (k : Int) < (ns.length : Int) := by omega
        by_cases h2 : 0 < ns.length
        · have q2 : (0 : Int) < (ns.length : Int) := by omega
          have hm : k % ns.length < ns.length := Nat.mod_lt _ h2
          have t := tail (6737 * (k : Int) + 823 + absI (ns.getD (k % ns.length) 0) % 2147483587 * 52433) (by unfold cellI; rw [if_neg h1, if_pos h2])
          have em : (k : Int) % (ns.length : Int) = ((k % ns.length : Nat) : Int) := by rw [Int.natCast_emod]
          simp only [cLen_scr, q1, q2, decide_true, decide_false, fMod_int h q2, em, fIx_scr hm, cInt_int, cAbs_int, e1, e3, fMod_int h p1, startD, List.map_cons, List.map_nil, List.length_cons, List.length_nil, List.replicate_succ, List.replicate_zero, List.cons_append, List.nil_append, List.append_nil, sSeq, sNext, sAsg, sExpr, sRet, sRetN, sIf, sPar, sAug, sFor, sNo, sSetF, RE.bind, RE.bindA, RA.bindA, RA.bind, RE.bindS, RS.bind, lift, mVar, mC, mBin, mUn, mCB, mCons, mNil, mTup, mLst, mLstC, mChain, mAnd, mOr, mNot, mIf, mTru, mCall, mFld, ar, gN, gNils, gConss, gT, List.getElem?_cons_zero, List.getElem?_cons_succ, List.set_cons_zero, List.set_cons_succ, fEqD_int, fNeD_int, fAdd_int, fSub_int, fLt_int, fLe_int, fGt_int, fGe_int, Nat.reduceSub, RSrc.bindS, RSrc.bind, RE.src, RA.src, iSeq, iEnum', Src.items, Nat.reduceAdd, reduceIte] at t ⊢
          exact t
        · have q2 : ¬ (0 : Int) < (ns.length : Int) := by omega
          have t := tail (6737 * (k : Int) + 823) (by unfold cellI; rw [if_neg h1, if_neg h2])
          simp only [cLen_scr, q1, q2, decide_false, e1, startD, List.map_cons, List.map_nil, List.length_cons, List.length_nil, List.replicate_succ, List.replicate_zero, List.cons_append, List.nil_append, List.append_nil, sSeq, sNext, sAsg, sExpr, sRet, sRetN, sIf, sPar, sAug, sFor, sNo, sSetF, RE.bind, RE.bindA, RA.bindA, RA.bind, RE.bindS, RS.bind, lift, mVar, mC, mBin, mUn, mCB, mCons, mNil, mTup, mLst, mLstC, mChain, mAnd, mOr, mNot, mIf, mTru, mCall, mFld, ar, gN, gNils, gConss, gT, List.getElem?_cons_zero, List.getElem?_cons_succ, List.set_cons_zero, List.set_cons_succ, fEqD_int, fNeD_int, fAdd_int, fSub_int, fLt_int, fLe_int, fGt_int, fGe_int, Nat.reduceSub, RSrc.bindS, RSrc.bind, RE.src, RA.src, iSeq, iEnum', Src.items, Nat.reduceAdd, reduceIte] at t ⊢
          exact t
    · exact absurd rfl ne
  · exact absurd rfl ne
theorem okB_box (ns : List Int) (k : Nat) : okB (greatI ns k) (restI ns k) := by
  unfold okB greatI restI
  have a := Int.emod_nonneg (cellI ns k % 2147483587 * 69069 + 823 * (k : Int)) (show (2147483587 : Int) ≠ 0 by decide)
  have b := Int.emod_lt_of_pos (cellI ns k % 2147483587 * 69069 + 823 * (k : Int)) (show (0 : Int) < 2147483587 by decide)
  refine ⟨?_, by omega, by omega⟩
  split
  · omega
  · decide
/-! ### draws -/
def rawI (r : Int) : Int := (r * 40692 + 97) % 2147483399
def nextI (r : Int) : Int := (rawI r * 40014 + 11) % 2147483587 + 1
def f__law_take : MF := fun ds h => match ds with
  | [.cell b, .int n] => (match h[b]? with
    | some (.lst [.int g, .int r]) => if okB g r ∧ 0 < n ∧ n < 2 ^ 200 then (if 0 < g then .ok (.int (g % n)) (h.set b (bC (g / n) r)) else .ok (.int ((rawI r * 2147483629 + nextI r) / 8209 % n)) (h.set b (bC g (nextI r)))) else .no
    | _ => .no)
  | _ => .no
theorem dr_set {h : CH} {b : Nat} {c : Cell} {d : D} (l : c.low h.length = true) (ld : d.low h.length = true) : Drops h (.rt d (h.set b c)) (.ok d (h.set b c)) := by
  refine ⟨⟨⟨[], by simp⟩, by simp, fun d m => ?_⟩, .low (by simpa using ld)⟩
  rcases List.mem_or_eq_of_mem_set m with q | q
  · exact .inl q
  · subst q
    exact .inr (by simpa using l)
theorem fIx_cell {h : CH} {b : Nat} {ds : List D} {i : Nat} {d : D} (e : h[b]? = some (.lst ds)) (e2 : ds[i]? = some d) : fIx h (.cell b) (dN i) = some d := by
  simp only [fIx, seqOf, lstOf, e]
  exact atI_nat e2
theorem me__law_take : Meets' 2 4 m__law_take f__law_take := by
  intro ds h hl lo bel ne
  unfold f__law_take at ne ⊢
  split at ne
  · next b n =>
    split at ne
    · next g r e =>
      split at ne
      · next c =>
        obtain ⟨⟨g0, r1, r2⟩, n0, nb⟩ := id c
        have ix0 : fIx h (.cell b) (.int 0) = some (.int g) := fIx_cell (i := 0) e rfl
        have ix1 : fIx h (.cell b) (.int 1) = some (.int r) := fIx_cell (i := 1) e rfl
        have sn : n.natAbs < 2 ^ 8000 := sm (by omega) nb
        have hb : b < h.length := (List.getElem?_eq_some_iff.mp e).1
        have pt0 : ∀ z, Py.putAt h (.cell b) (.int 0) z = some (h.set b (.lst [z, .int r])) := fun z => by
          simp only [Py.putAt, e]
          rfl
        have pt1 : ∀ z, Py.putAt h (.cell b) (.int 1) z = some (h.set b (.lst [.int g, z])) := fun z => by
          simp only [Py.putAt, e]
          rfl
        simp only [if_pos c]
        by_cases gp : 0 < g
        · simp only [m__law_take, sPut, ix0, gp, decide_true, cInt_int, fMod_int h n0, fDiv_sm h n0 sn, pt0, if_true, startD, List.map_cons, List.map_nil, List.length_cons, List.length_nil, List.replicate_succ, List.replicate_zero, List.cons_append, List.nil_append, List.append_nil, sSeq, sNext, sAsg, sExpr, sRet, sRetN, sIf, sPar, sAug, sFor, sNo, sSetF, RE.bind, RE.bindA, RA.bindA, RA.bind, RE.bindS, RS.bind, lift, mVar, mC, mBin, mUn, mCB, mCons, mNil, mTup, mLst, mLstC, mChain, mAnd, mOr, mNot, mIf, mTru, mCall, mFld, ar, gN, gNils, gConss, gT, List.getElem?_cons_zero, List.getElem?_cons_succ, List.set_cons_zero, List.set_cons_succ, fEqD_int, fNeD_int, fAdd_int, fSub_int, fLt_int, fLe_int, fGt_int, fGe_int, Nat.reduceSub, RSrc.bindS, RSrc.bind, RE.src, RA.src, iSeq, iEnum', Src.items, Nat.reduceAdd, reduceIte]
          exact dr_set rfl rfl
        · have p2 : (0 : Int) < 2147483399 := by decide
          have p3 : (0 : Int) < 2147483587 := by decide
          have ra := Int.emod_nonneg (r * 40692 + 97) (show (2147483399 : Int) ≠ 0 by decide)
          have rb := Int.emod_lt_of_pos (r * 40692 + 97) p2
          have m1 : fMul h (.int r) (.int 40692) = some (.int (r * 40692)) := fMul_sm h (sm (by omega) (by omega)) (by decide)
          have m2 : fMul h (.int ((r * 40692 + 97) % 2147483399)) (.int 40014) = some (.int ((r * 40692 + 97) % 2147483399 * 40014)) := fMul_sm h (sm (by omega) (by omega)) (by decide)
          have m3 : ∀ h', fMul h' (.int ((r * 40692 + 97) % 2147483399)) (.int 2147483629) = some (.int ((r * 40692 + 97) % 2147483399 * 2147483629)) := fun h' => fMul_sm h' (sm (by omega) (by omega)) (by decide)
          have ix2 : ∀ z, fIx (h.set b (.lst [.int g, z])) (.cell b) (.int 1) = some z := fun z => fIx_cell (i := 1) (List.getElem?_set_self hb) rfl
          have dv : ∀ (h' : CH) (i : Int), fDiv h' (.int i) (.int 8209) = some (.int (i / 8209)) := fun h' i => fDiv_sm h' (by decide) (by decide)
          have mo : ∀ (h' : CH) (i : Int), fMod h' (.int i) (.int n) = some (.int (i % n)) := fun h' i => fMod_int h' n0
          simp only [m__law_take, sPut, ix0, ix1, gp, decide_false, cInt_int, m1, fMod_int h p2, m2, fMod_int h p3, pt1, ix2, m3, dv, mo, if_false, startD, List.map_cons, List.map_nil, List.length_cons, List.length_nil, List.replicate_succ, List.replicate_zero, List.cons_append, List.nil_append, List.append_nil, sSeq, sNext, sAsg, sExpr, sRet, sRetN, sIf, sPar, sAug, sFor, sNo, sSetF, RE.bind, RE.bindA, RA.bindA, RA.bind, RE.bindS, RS.bind, lift, mVar, mC, mBin, mUn, mCB, mCons, mNil, mTup, mLst, mLstC, mChain, mAnd, mOr, mNot, mIf, mTru, mCall, mFld, ar, gN, gNils, gConss, gT, List.getElem?_cons_zero, List.getElem?_cons_succ, List.set_cons_zero, List.set_cons_succ, fEqD_int, fNeD_int, fAdd_int, fSub_int, fLt_int, fLe_int, fGt_int, fGe_int, Nat.reduceSub, RSrc.bindS, RSrc.bind, RE.src, RA.src, iSeq, iEnum', Src.items, Nat.reduceAdd, reduceIte]
          exact dr_set rfl rfl
      · exact absurd rfl ne
    · exact absurd rfl ne
  · exact absurd rfl ne
/-- a draw: all that is used of it -/
theorem take_ok {h : CH} {b n : Nat} {g r : Int} (e : h[b]? = some (bC g r)) (ok : okB g r) (n0 : 0 < n) (nb : n < 2 ^ 100) : ∃ (d : Nat) (g' r' : Int), f__law_take [.cell b, dN n] h = .ok (dN d) (h.set b (bC g' r')) ∧ okB g' r' ∧ d < n := by
  have np : (0 : Int) < (n : Int) := by omega
  have nb' : (n : Int) < 2 ^ 200 := by
    have : n < 2 ^ 200 := Nat.lt_trans nb (Nat.pow_lt_pow_right (by decide) (by decide))
    exact_mod_cast this
  have c : okB g r ∧ 0 < (n : Int) ∧ (n : Int) < 2 ^ 200 := ⟨ok, np, nb'⟩
  obtain ⟨g0, r1, r2⟩ := ok
  simp only [f__law_take, e, if_pos c]
  by_cases gp : 0 < g
  · have a := Int.emod_nonneg g (show (n : Int) ≠ 0 by omega)
    have l := Int.emod_lt_of_pos g np
    refine ⟨(g % n).toNat, g / n, r, ?_, ⟨Int.ediv_nonneg g0 (Int.le_of_lt np), r1, r2⟩, by omega⟩
    rw [if_pos gp]
    show _ = RE.ok (D.int (((g % (n : Int)).toNat : Nat) : Int)) _
    rw [Int.toNat_of_nonneg a]
  · generalize hz : (rawI r * 2147483629 + nextI r) / 8209 = z
    have a := Int.emod_nonneg z (show (n : Int) ≠ 0 by omega)
    have l := Int.emod_lt_of_pos z np
    have a2 := Int.emod_nonneg (rawI r * 40014 + 11) (show (2147483587 : Int) ≠ 0 by decide)
    have l2 := Int.emod_lt_of_pos (rawI r * 40014 + 11) (show (0 : Int) < 2147483587 by decide)
    refine ⟨(z % n).toNat, g, nextI r, ?_, ⟨g0, by unfold nextI; omega, by unfold nextI; omega⟩, by omega⟩
    rw [if_neg gp]
    show _ = RE.ok (D.int (((z % (n : Int)).toNat : Nat) : Int)) _
    rw [Int.toNat_of_nonneg a]
end K16

set_option Elab.async false
set_option linter.all false
set_option maxRecDepth 100000
namespace K16
open PySem PySem.Spec PyProof.Rows L2 Py
/-- nothing but boxes stands -/
def Bx (h : CH) : Prop := ∀ c ∈ h, ∃ g r, c = bC g r ∧ okB g r
theorem Bx.low {h : CH} (b : Bx h) {n : Nat} : ∀ c ∈ h, c.low n = true := fun c m => by
  obtain ⟨g, r, rfl, _⟩ := b c m
  rfl
theorem Bx.set {h : CH} (b : Bx h) {i : Nat} {g r : Int} (o : okB g r) : Bx (h.set i (bC g r)) := fun c m => by
  rcases List.mem_or_eq_of_mem_set m with q | q
  · exact b c q
  · exact ⟨g, r, q, o⟩
theorem Bx.add {h : CH} (b : Bx h) {g r : Int} (o : okB g r) : Bx (h ++ [bC g r]) := fun c m => by
  rcases List.mem_append.mp m with q | q
  · exact b c q
  · rw [List.mem_singleton.mp q]
    exact ⟨g, r, rfl, o⟩
/-- the heap stands but for the box b -/
structure At (h h' : CH) (b : Nat) : Prop where
  bx : Bx h'
  ln : h'.length = h.length
  hb : b < h'.length
theorem At.draw {h h' : CH} {b n : Nat} (a : At h h' b) (n0 : 0 < n) (nb : n < 2 ^ 100) : ∃ (d : Nat) (h2 : CH), f__law_take [.cell b, dN n] h' = .ok (dN d) h2 ∧ At h h2 b ∧ d < n := by
  have hb := a.hb
  obtain ⟨g, r, e, o⟩ := a.bx h'[b] (List.getElem_mem hb)
  obtain ⟨d, g', r', z, o', l⟩ := take_ok (h := h') (b := b) (n := n) (by rw [List.getElem?_eq_getElem a.hb, e]) o n0 nb
  exact ⟨d, _, z, ⟨a.bx.set o', by rw [List.length_set]; exact a.ln, by rw [List.length_set]; exact a.hb⟩, l⟩
noncomputable def f__law_pick : MF := cutM 2 (m__law_pick f__law_take)
theorem pick_ok {h : CH} {b : Nat} {xs : D} {l : List D} (a : At h h b) (e : seqF xs = some l) (l0 : 0 < l.length) (lb : l.length < 2 ^ 100) (lo : D.lows h.length l = true) : ∃ (d : D) (h2 : CH), f__law_pick [.cell b, xs] h = .ok d h2 ∧ At h h2 b ∧ d ∈ l := by
  obtain ⟨d, h2, z, a2, dl⟩ := a.draw l0 lb
  have gx : l[d]? = some l[d] := List.getElem?_eq_getElem dl
  have ix : fIx h2 xs (dN d) = some l[d] := by
    simp only [fIx, seqF_seq e]
    exact atI_nat gx
  refine ⟨l[d], h2, cut_rt0 ?_ a2.ln (lows_mem.mp lo _ (List.getElem_mem dl)) a2.bx.low, a2, List.getElem_mem dl⟩
  simp only [m__law_pick, seqF_len e, z, ix, startD, List.map_cons, List.map_nil, List.length_cons, List.length_nil, List.replicate_succ, List.replicate_zero, List.cons_append, List.nil_append, List.append_nil, sSeq, sNext, sAsg, sExpr, sRet, sRetN, sIf, sPar, sAug, sFor, sNo, sSetF, RE.bind, RE.bindA, RA.bindA, RA.bind, RE.bindS, RS.bind, lift, mVar, mC, mBin, mUn, mCB, mCons, mNil, mTup, mLst, mLstC, mChain, mAnd, mOr, mNot, mIf, mTru, mCall, mFld, ar, gN, gNils, gConss, gT, List.getElem?_cons_zero, List.getElem?_cons_succ, List.set_cons_zero, List.set_cons_succ, fEqD_int, fNeD_int, fAdd_int, fSub_int, fLt_int, fLe_int, fGt_int, fGe_int, Nat.reduceSub, RSrc.bindS, RSrc.bind, RE.src, RA.src, iSeq, iEnum', Src.items, Nat.reduceAdd, reduceIte]
/-! ### shares -/
def prodL (ms : List Nat) : Nat := ms.foldl (· * ·) 1
def sumP (ms : List Nat) : Nat := (ms.map fun m => prodL ms / m).sum
def okS (ms : List Nat) : Prop := ms.length ≤ 8 ∧ ∀ m ∈ ms, 1 ≤ m ∧ m ≤ 60
instance (ms : List Nat) : Decidable (okS ms) := by unfold okS; infer_instance
theorem prod_take {ms : List Nat} (h : ∀ m ∈ ms, 1 ≤ m ∧ m ≤ 60) : ∀ i, i ≤ ms.length → 0 < (ms.take i).foldl (· * ·) 1 ∧ (ms.take i).foldl (· * ·) 1 ≤ 60 ^ i
  | 0, _ => by simp
  | i + 1, le => by
    obtain ⟨a, b⟩ := prod_take h i (by omega)
    have hi : i < ms.length := by omega
    rw [List.take_succ, List.getElem?_eq_getElem hi, Option.toList_some, List.foldl_append]
    have hm := h _ (List.getElem_mem hi)
    simp only [List.foldl_cons, List.foldl_nil]
    rw [Nat.pow_succ]
    exact ⟨Nat.mul_pos a hm.1, Nat.mul_le_mul b hm.2⟩
def f__law_share : MF := fun ds h => match ds with | [.tup l] => (match natsOf l with | some ms => if okS ms then .ok (.tup [dN (sumP ms), dN (prodL ms)]) h else .no | none => .no) | _ => .no
theorem me__law_share : Meets' 1 3 m__law_share f__law_share := by
  intro ds h hl lo bel ne
  unfold f__law_share at ne ⊢
  split at ne
  · next l =>
    split at ne
    · next ms e =>
      split at ne
      · next c =>
        obtain rfl := natsOf_eq e
        obtain ⟨hn, hm⟩ := id c
        obtain ⟨s', h', z, v, ez, eh⟩ : ∃ s' h', lp__law_share_0 [some (tN ms), some (.int 1), none] h = .nx s' h' ∧ ∃ v, s' = [some (tN ms), some (dN ((ms.take (ms.map dN).length).foldl (· * ·) 1)), v] ∧ h' = h :=
          sFor_all (x := .fix (ms.map dN)) (l := ms.map dN) (fun i s h' => ∃ v, s = [some (tN ms), some (dN ((ms.take i).foldl (· * ·) 1)), v] ∧ h' = h) rfl ⟨none, rfl, rfl⟩ (fun i s h' _ => rfl) (fun i d s h' ⟨v, es, eh⟩ ed => by
            subst es eh
            rw [List.getElem?_map] at ed
            obtain ⟨m, em, rfl⟩ := Option.map_eq_some_iff.mp ed
            obtain ⟨hi, ei⟩ := List.getElem?_eq_some_iff.mp em
            have hb := hm m (List.mem_of_getElem? em)
            obtain ⟨a0, a1⟩ := prod_take hm i (by omega)
            have a2 := Nat.lt_of_le_of_lt a1 (pow60 (i := i) (by omega))
            refine ⟨_, _, _, rfl, .inl ?_, some (dN m), rfl, rfl⟩
            simp only [fMul_sm h' (big a2) (bigs hb.2 b60), startD, List.map_cons, List.map_nil, List.length_cons, List.length_nil, List.replicate_succ, List.replicate_zero, List.cons_append, List.nil_append, List.append_nil, sSeq, sNext, sAsg, sExpr, sRet, sRetN, sIf, sPar, sAug, sFor, sNo, sSetF, RE.bind, RE.bindA, RA.bindA, RA.bind, RE.bindS, RS.bind, lift, mVar, mC, mBin, mUn, mCB, mCons, mNil, mTup, mLst, mLstC, mChain, mAnd, mOr, mNot, mIf, mTru, mCall, mFld, ar, gN, gNils, gConss, gT, List.getElem?_cons_zero, List.getElem?_cons_succ, List.set_cons_zero, List.set_cons_succ, fEqD_int, fNeD_int, fAdd_int, fSub_int, fLt_int, fLe_int, fGt_int, fGe_int, Nat.reduceSub, RSrc.bindS, RSrc.bind, RE.src, RA.src, iSeq, iEnum', Src.items, Nat.reduceAdd, reduceIte]
            rw [← Int.natCast_mul, List.take_succ, em, Option.toList_some, List.foldl_append]
            rfl)
        rw [List.length_map, List.take_length] at ez
        subst ez eh
        have lc : lc__law_share_0 [some (tN ms), some (dN (prodL ms)), v] h' = .ok (.lst (ms.map fun m => dN (prodL ms / m))) h' :=
          mLc_all (x := .fix (ms.map dN)) dN (fun m => dN (prodL ms / m)) rfl rfl (sz_of hn) fun m mm => by
            have hb := hm m mm
            refine ⟨_, rfl, ?_⟩
            simp only [wipeS, fDiv_sm h' (i := (prodL ms : Int)) (j := (m : Int)) (by omega) (bigs hb.2 b60), startD, List.map_cons, List.map_nil, List.length_cons, List.length_nil, List.replicate_succ, List.replicate_zero, List.cons_append, List.nil_append, List.append_nil, sSeq, sNext, sAsg, sExpr, sRet, sRetN, sIf, sPar, sAug, sFor, sNo, sSetF, RE.bind, RE.bindA, RA.bindA, RA.bind, RE.bindS, RS.bind, lift, mVar, mC, mBin, mUn, mCB, mCons, mNil, mTup, mLst, mLstC, mChain, mAnd, mOr, mNot, mIf, mTru, mCall, mFld, ar, gN, gNils, gConss, gT, List.getElem?_cons_zero, List.getElem?_cons_succ, List.set_cons_zero, List.set_cons_succ, fEqD_int, fNeD_int, fAdd_int, fSub_int, fLt_int, fLe_int, fGt_int, fGe_int, Nat.reduceSub, RSrc.bindS, RSrc.bind, RE.src, RA.src, iSeq, iEnum', Src.items, Nat.reduceAdd, reduceIte]
            simp
        have em : (ms.map fun m => dN (prodL ms / m)) = (ms.map fun m => prodL ms / m).map dN := by rw [List.map_map]; rfl
        rw [em] at lc
        have lc2 : List.foldl (· * ·) 1 ms = prodL ms := rfl
        simp only [e, if_pos c, m__law_share, z, lc2, lc, startD, List.map_cons, List.map_nil, List.length_cons, List.length_nil, List.replicate_succ, List.replicate_zero, List.cons_append, List.nil_append, List.append_nil, sSeq, sNext, sAsg, sExpr, sRet, sRetN, sIf, sPar, sAug, sFor, sNo, sSetF, RE.bind, RE.bindA, RA.bindA, RA.bind, RE.bindS, RS.bind, lift, mVar, mC, mBin, mUn, mCB, mCons, mNil, mTup, mLst, mLstC, mChain, mAnd, mOr, mNot, mIf, mTru, mCall, mFld, ar, gN, gNils, gConss, gT, List.getElem?_cons_zero, List.getElem?_cons_succ, List.set_cons_zero, List.set_cons_succ, fEqD_int, fNeD_int, fAdd_int, fSub_int, fLt_int, fLe_int, fGt_int, fGe_int, Nat.reduceSub, RSrc.bindS, RSrc.bind, RE.src, RA.src, iSeq, iEnum', Src.items, Nat.reduceAdd, reduceIte]
        simp only [cSum, lsOf, lstOf, intsOf_nats, sum_nats, Option.map_some, if_pos (two_ok (n := 2) (by decide)), startD, List.map_cons, List.map_nil, List.length_cons, List.length_nil, List.replicate_succ, List.replicate_zero, List.cons_append, List.nil_append, List.append_nil, sSeq, sNext, sAsg, sExpr, sRet, sRetN, sIf, sPar, sAug, sFor, sNo, sSetF, RE.bind, RE.bindA, RA.bindA, RA.bind, RE.bindS, RS.bind, lift, mVar, mC, mBin, mUn, mCB, mCons, mNil, mTup, mLst, mLstC, mChain, mAnd, mOr, mNot, mIf, mTru, mCall, mFld, ar, gN, gNils, gConss, gT, List.getElem?_cons_zero, List.getElem?_cons_succ, List.set_cons_zero, List.set_cons_succ, fEqD_int, fNeD_int, fAdd_int, fSub_int, fLt_int, fLe_int, fGt_int, fGe_int, Nat.reduceSub, RSrc.bindS, RSrc.bind, RE.src, RA.src, iSeq, iEnum', Src.items, Nat.reduceAdd, reduceIte]
        exact dr_rt rfl
      · exact absurd rfl ne
    · exact absurd rfl ne
  · exact absurd rfl ne
def f__law_tells : MF := fun ds h => match ds with | [.tup l] => (match natsOf l with | some ms => if okS ms then .ok (.bl (decide (sumP ms ≤ prodL ms))) h else .no | none => .no) | _ => .no
theorem me__law_tells : Meets' 1 3 (m__law_tells f__law_share) f__law_tells := by
  intro ds h hl lo bel ne
  unfold f__law_tells at ne ⊢
  split at ne
  · next l =>
    split at ne
    · next ms e =>
      split at ne
      · next c =>
        simp only [e, if_pos c, m__law_tells, f__law_share, int_le_iff, startD, List.map_cons, List.map_nil, List.length_cons, List.length_nil, List.replicate_succ, List.replicate_zero, List.cons_append, List.nil_append, List.append_nil, sSeq, sNext, sAsg, sExpr, sRet, sRetN, sIf, sPar, sAug, sFor, sNo, sSetF, RE.bind, RE.bindA, RA.bindA, RA.bind, RE.bindS, RS.bind, lift, mVar, mC, mBin, mUn, mCB, mCons, mNil, mTup, mLst, mLstC, mChain, mAnd, mOr, mNot, mIf, mTru, mCall, mFld, ar, gN, gNils, gConss, gT, List.getElem?_cons_zero, List.getElem?_cons_succ, List.set_cons_zero, List.set_cons_succ, fEqD_int, fNeD_int, fAdd_int, fSub_int, fLt_int, fLe_int, fGt_int, fGe_int, Nat.reduceSub, RSrc.bindS, RSrc.bind, RE.src, RA.src, iSeq, iEnum', Src.items, Nat.reduceAdd, reduceIte]
        exact dr_rt rfl
      · exact absurd rfl ne
    · exact absurd rfl ne
  · exact absurd rfl ne
/-! ### marks -/
noncomputable def f__law_marks : MF := cutM 4 (m__law_marks f__law_take f__law_pick f__law_tells)
def goodMs (ms : List Nat) : Prop := okMs ms = true ∧ ms.length ≤ 4 ∧ (∀ m ∈ ms, 2 ≤ m) ∧ sumP ms ≤ prodL ms
instance (ms : List Nat) : Decidable (goodMs ms) := by unfold goodMs; infer_instance
theorem fEq_d (h : CH) (d : Nat) : fEqD h (dN d) (.int 0) = some (.bl (decide (d = 0))) := by
  rw [fEqD_int]
  congr 2
  by_cases z : d = 0
  · subst z; rfl
  · simp [z]
theorem dN_all : ∀ {n : Nat} {l : List D}, (∀ d ∈ l, ∃ k : Nat, k < n ∧ d = .int (2 + (k : Int))) → ∃ ms : List Nat, l = ms.map dN ∧ ∀ m ∈ ms, 2 ≤ m ∧ m < 2 + n
  | n, [], _ => ⟨[], rfl, by simp⟩
  | n, d :: l, h => by
    obtain ⟨k, hk, rfl⟩ := h d List.mem_cons_self
    obtain ⟨ms, rfl, hm⟩ := dN_all (l := l) fun d m => h d (List.mem_cons_of_mem _ m)
    refine ⟨(2 + k) :: ms, by simp, fun m mm => ?_⟩
    rcases List.mem_cons.mp mm with q | q
    · subst q; omega
    · exact hm m q
theorem mCons_ok {m : ME} {r : MA} {s : SLS} {h h1 h2 : CH} {d : D} {ds : List D} (e : m s h = .ok d h1) (e2 : r s h1 = .ok ds h2) : mCons m r s h = .ok (d :: ds) h2 := by
  simp only [mCons, RE.bindA, RA.bindA, e, e2]
theorem mTup_ok {r : MA} {s : SLS} {h h1 : CH} {ds : List D} (e : r s h = .ok ds h1) (sz : ds.length ≤ 100) : mTup r s h = .ok (.tup ds) h1 := by
  simp only [mTup, RA.bind, e, if_pos (two_ok sz)]
theorem mLst_ok {r : MA} {s : SLS} {h h1 : CH} {ds : List D} (e : r s h = .ok ds h1) (sz : ds.length ≤ 100) : mLst r s h = .ok (.lst ds) h1 := by
  simp only [mLst, RA.bind, e, if_pos (two_ok sz)]
def menuL : List (List Nat) := ([[2, 2], [2, 3, 6], [3, 3, 3], [2, 4, 4], [2, 3], [6, 2, 3], [4, 2, 5], [2, 5, 4], [4, 4, 2], [5, 3, 3]] : List (List Nat))
def menuD : List D := menuL.map tN
theorem cl_menu (s : SLS) (h : CH) : cl__law_marks_0 f__law_take f__law_pick f__law_tells s h = .ok (.lst menuD) h := by
  unfold cl__law_marks_0
  refine mLst_ok (ds := menuD) ?_ (by decide)
  exact mCons_ok (mTup_ok rfl (by decide)) (mCons_ok (mTup_ok rfl (by decide)) (mCons_ok (mTup_ok rfl (by decide)) (mCons_ok (mTup_ok rfl (by decide)) (mCons_ok (mTup_ok rfl (by decide)) (mCons_ok (mTup_ok rfl (by decide)) (mCons_ok (mTup_ok rfl (by decide)) (mCons_ok (mTup_ok rfl (by decide)) (mCons_ok (mTup_ok rfl (by decide)) (mCons_ok (mTup_ok rfl (by decide)) rfl)))))))))
theorem menu : ∀ x ∈ menuL, goodMs x := by decide
theorem good22 : goodMs [2, 2] := by decide
abbrev cDraw : ME := mBin fAdd (mC (.int 2)) (mCall 2 f__law_take [] (mCons (mVar 0) (mCons (mC (.int 6)) mNil)))
abbrev iDraw : MSrc := iRange1 (mCons (mBin fAdd (mC (.int 2)) (mCall 2 f__law_take [] (mCons (mVar 0) (mCons (mC (.int 3)) mNil)))) mNil)
theorem it_draw {h' h2 : CH} {b k : Nat} {d w : Option D} (z : f__law_take [.cell b, .int 3] h' = .ok (dN k) h2) (kl : k < 3) : iDraw [some (.cell b), d, w, none] h' = .ok (.fix (rangeD 0 (2 + k))) h2 := by
  have e : (2 : Int) + (k : Int) = ((2 + k : Nat) : Int) := by omega
  refine iR1 ?_ (by omega)
  simp only [z, e, startD, List.map_cons, List.map_nil, List.length_cons, List.length_nil, List.replicate_succ, List.replicate_zero, List.cons_append, List.nil_append, List.append_nil, sSeq, sNext, sAsg, sExpr, sRet, sRetN, sIf, sPar, sAug, sFor, sNo, sSetF, RE.bind, RE.bindA, RA.bindA, RA.bind, RE.bindS, RS.bind, lift, mVar, mC, mBin, mUn, mCB, mCons, mNil, mTup, mLst, mLstC, mChain, mAnd, mOr, mNot, mIf, mTru, mCall, mFld, ar, gN, gNils, gConss, gT, List.getElem?_cons_zero, List.getElem?_cons_succ, List.set_cons_zero, List.set_cons_succ, fEqD_int, fNeD_int, fAdd_int, fSub_int, fLt_int, fLe_int, fGt_int, fGe_int, Nat.reduceSub, RSrc.bindS, RSrc.bind, RE.src, RA.src, iSeq, iEnum', Src.items, Nat.reduceAdd, reduceIte]
theorem range_len (k : Nat) : (rangeD 0 k).length = k := by simp [rangeD]
theorem drawn {h h' : CH} {b : Nat} (ah : At h h' b) (d w : Option D) : ∃ (ms : List Nat) (h3 : CH), lc__law_marks_0 f__law_take f__law_pick f__law_tells [some (.cell b), d, w, none] h' = .ok (.lst (ms.map dN)) h3 ∧ At h h3 b ∧ 2 ≤ ms.length ∧ ms.length ≤ 4 ∧ ∀ m ∈ ms, 2 ≤ m ∧ m < 8 := by
  obtain ⟨k, h2, z2, a2, kl⟩ := ah.draw (n := 3) (by decide) (by decide)
  have z2' : f__law_take [.cell b, .int 3] h' = .ok (dN k) h2 := z2
  obtain ⟨ws, h3, z3, a3, l3, r3⟩ := mLc_eff (mi := iDraw) (gm := gN 3) (me := cDraw) (vs := [3]) (s := [some (.cell b), d, w, none]) (h := h') (h1 := h2) (l := rangeD 0 (2 + k)) (fun x => At h x b) (fun v => ∃ k : Nat, k < 6 ∧ v = .int (2 + (k : Int))) (it_draw z2' kl) a2
    (by rw [range_len]; exact sz_of (n := 2 + k) (m := 5) (by omega)) (fun e _ hh ahh => by
      obtain ⟨q, h4, z4, a4, ql⟩ := ahh.draw (n := 6) (by decide) (by decide)
      have z4' : f__law_take [.cell b, .int 6] hh = .ok (dN q) h4 := z4
      refine ⟨_, .int (2 + (q : Int)), h4, rfl, ?_, a4, q, ql, rfl⟩
      simp only [wipeS, cDraw, z4', startD, List.map_cons, List.map_nil, List.length_cons, List.length_nil, List.replicate_succ, List.replicate_zero, List.cons_append, List.nil_append, List.append_nil, sSeq, sNext, sAsg, sExpr, sRet, sRetN, sIf, sPar, sAug, sFor, sNo, sSetF, RE.bind, RE.bindA, RA.bindA, RA.bind, RE.bindS, RS.bind, lift, mVar, mC, mBin, mUn, mCB, mCons, mNil, mTup, mLst, mLstC, mChain, mAnd, mOr, mNot, mIf, mTru, mCall, mFld, ar, gN, gNils, gConss, gT, List.getElem?_cons_zero, List.getElem?_cons_succ, List.set_cons_zero, List.set_cons_succ, fEqD_int, fNeD_int, fAdd_int, fSub_int, fLt_int, fLe_int, fGt_int, fGe_int, Nat.reduceSub, RSrc.bindS, RSrc.bind, RE.src, RA.src, iSeq, iEnum', Src.items, Nat.reduceAdd, reduceIte])
  obtain ⟨ms, rfl, hm⟩ := dN_all r3
  have ml : ms.length = 2 + k := by rw [List.length_map, range_len] at l3; exact l3
  exact ⟨ms, h3, z3, a3, by omega, by omega, fun m mm => by have := hm m mm; omega⟩
theorem marks_loop {h h1 : CH} {b : Nat} (a1 : At h h1 b) : (∃ s' h', lp__law_marks_0 f__law_take f__law_pick f__law_tells [some (.cell b), none, none, none] h1 = .nx s' h' ∧ At h h' b) ∨
    (∃ v h', lp__law_marks_0 f__law_take f__law_pick f__law_tells [some (.cell b), none, none, none] h1 = .rt v h' ∧ At h h' b ∧ ∃ ms, v = tN ms ∧ goodMs ms) := by
  have it20 : iRange1 (mCons (mC (.int 20)) mNil) [some (.cell b), none, none, none] h1 = .ok (.fix (rangeD 0 (20 : Int).toNat)) h1 := by
    exact iR1 (n := 20) rfl (by decide)
  have loop := sFor_or (mi := iRange1 (mCons (mC (.int 20)) mNil)) (g := gN 1) (mb := sSeq (sAsg (mCB cTuple (mCons (lc__law_marks_0 f__law_take f__law_pick f__law_tells) mNil)) (gN 2)) (sSeq (sIf (mCall 1 f__law_tells [] (mCons (mVar 2) mNil)) (sSeq (sRet (mVar 2)) sNext) sNext) sNext))
    (s := [some (.cell b), none, none, none]) (h := h1) (h1 := h1) (l := rangeD 0 (20 : Int).toNat) (fun s h' => ∃ v w, s = [some (.cell b), v, w, none] ∧ At h h' b) (fun v h' => At h h' b ∧ ∃ ms, v = tN ms ∧ goodMs ms) it20 ⟨none, none, rfl, a1⟩ (fun d _ s h' ⟨v, w, es, ah⟩ => by
      subst es
      refine ⟨_, rfl, ?_⟩
      obtain ⟨ms, h3, lcz, a3, m1, m2, hm⟩ := drawn ah (some d) w
      have oks : okS ms := ⟨by omega, fun m mm => by have := hm m mm; omega⟩
      have ct : cTuple h3 [.lst (ms.map dN)] = some (tN ms) := rfl
      by_cases t : sumP ms ≤ prodL ms
      · refine .inr ⟨tN ms, h3, ?_, a3, ms, rfl, ?_, by omega, fun m mm => (hm m mm).1, t⟩
        · simp only [lcz, ct, f__law_tells, natsOf_map, if_pos oks, t, decide_true, startD, List.map_cons, List.map_nil, List.length_cons, List.length_nil, List.replicate_succ, List.replicate_zero, List.cons_append, List.nil_append, List.append_nil, sSeq, sNext, sAsg, sExpr, sRet, sRetN, sIf, sPar, sAug, sFor, sNo, sSetF, RE.bind, RE.bindA, RA.bindA, RA.bind, RE.bindS, RS.bind, lift, mVar, mC, mBin, mUn, mCB, mCons, mNil, mTup, mLst, mLstC, mChain, mAnd, mOr, mNot, mIf, mTru, mCall, mFld, ar, gN, gNils, gConss, gT, List.getElem?_cons_zero, List.getElem?_cons_succ, List.set_cons_zero, List.set_cons_succ, fEqD_int, fNeD_int, fAdd_int, fSub_int, fLt_int, fLe_int, fGt_int, fGe_int, Nat.reduceSub, RSrc.bindS, RSrc.bind, RE.src, RA.src, iSeq, iEnum', Src.items, Nat.reduceAdd, reduceIte]
        · simp only [okMs, Bool.and_eq_true, decide_eq_true_eq, List.all_eq_true]
          exact ⟨⟨by omega, by omega⟩, fun m mm => by have := hm m mm; omega⟩
      · refine .inl ⟨[some (.cell b), some d, some (tN ms), none], h3, ?_, _, _, rfl, a3⟩
        simp only [lcz, ct, f__law_tells, natsOf_map, if_pos oks, t, decide_false, startD, List.map_cons, List.map_nil, List.length_cons, List.length_nil, List.replicate_succ, List.replicate_zero, List.cons_append, List.nil_append, List.append_nil, sSeq, sNext, sAsg, sExpr, sRet, sRetN, sIf, sPar, sAug, sFor, sNo, sSetF, RE.bind, RE.bindA, RA.bindA, RA.bind, RE.bindS, RS.bind, lift, mVar, mC, mBin, mUn, mCB, mCons, mNil, mTup, mLst, mLstC, mChain, mAnd, mOr, mNot, mIf, mTru, mCall, mFld, ar, gN, gNils, gConss, gT, List.getElem?_cons_zero, List.getElem?_cons_succ, List.set_cons_zero, List.set_cons_succ, fEqD_int, fNeD_int, fAdd_int, fSub_int, fLt_int, fLe_int, fGt_int, fGe_int, Nat.reduceSub, RSrc.bindS, RSrc.bind, RE.src, RA.src, iSeq, iEnum', Src.items, Nat.reduceAdd, reduceIte])
  rcases loop with ⟨s', h', z, v, w, es, ah⟩ | ⟨v, h', z, ah, ms, e, gm⟩
  · exact .inl ⟨s', h', z, ah⟩
  · exact .inr ⟨v, h', z, ah, ms, e, gm⟩
end K16

set_option Elab.async false
set_option linter.all false
set_option maxRecDepth 100000
namespace K16
open PySem PySem.Spec PyProof.Rows L2 Py
theorem menuD_len : menuD.length = 10 := rfl
theorem menuD_low (n : Nat) : D.lows n menuD = true := by
  rw [lows_mem]
  intro d md
  obtain ⟨ms, _, rfl⟩ := List.mem_map.mp md
  exact low_tN ms
theorem marks_ok {h : CH} {b : Nat} (a : At h h b) : ∃ (ms : List Nat) (h2 : CH), f__law_marks [.cell b] h = .ok (tN ms) h2 ∧ At h h2 b ∧ goodMs ms := by
  obtain ⟨d, h1, z1, a1, _⟩ := a.draw (n := 3) (by decide) (by decide)
  have z1' : f__law_take [.cell b, .int 3] h = .ok (dN d) h1 := z1
  by_cases d0 : d = 0
  · have d0i : (d : Int) = 0 := by omega
    have a1' : At h1 h1 b := ⟨a1.bx, rfl, a1.hb⟩
    obtain ⟨x, h2, z2, a2, mx⟩ := pick_ok (xs := .lst menuD) a1' rfl (by rw [menuD_len]; decide) (by rw [menuD_len]; decide) (menuD_low _)
    obtain ⟨ms, mm, rfl⟩ := List.mem_map.mp mx
    refine ⟨ms, h2, cut_rt0 ?_ (a2.ln.trans a1.ln) (low_tN ms) a2.bx.low, ⟨a2.bx, a2.ln.trans a1.ln, a2.hb⟩, menu ms mm⟩
    simp only [m__law_marks, z1', d0i, decide_true, cl_menu, z2, startD, List.map_cons, List.map_nil, List.length_cons, List.length_nil, List.replicate_succ, List.replicate_zero, List.cons_append, List.nil_append, List.append_nil, sSeq, sNext, sAsg, sExpr, sRet, sRetN, sIf, sPar, sAug, sFor, sNo, sSetF, RE.bind, RE.bindA, RA.bindA, RA.bind, RE.bindS, RS.bind, lift, mVar, mC, mBin, mUn, mCB, mCons, mNil, mTup, mLst, mLstC, mChain, mAnd, mOr, mNot, mIf, mTru, mCall, mFld, ar, gN, gNils, gConss, gT, List.getElem?_cons_zero, List.getElem?_cons_succ, List.set_cons_zero, List.set_cons_succ, fEqD_int, fNeD_int, fAdd_int, fSub_int, fLt_int, fLe_int, fGt_int, fGe_int, Nat.reduceSub, RSrc.bindS, RSrc.bind, RE.src, RA.src, iSeq, iEnum', Src.items, Nat.reduceAdd, reduceIte]
  · have d0i : ¬ ((d : Int) = 0) := by omega
    rcases marks_loop a1 with ⟨s', h', z, ah⟩ | ⟨v, h', z, ah, ms, rfl, gm⟩
    · refine ⟨[2, 2], h', cut_rt0 ?_ ah.ln (low_tN _) ah.bx.low, ah, good22⟩
      simp only [m__law_marks, z1', d0i, decide_false, z, if_pos (two_ok (n := 2) (by decide)), startD, List.map_cons, List.map_nil, List.length_cons, List.length_nil, List.replicate_succ, List.replicate_zero, List.cons_append, List.nil_append, List.append_nil, sSeq, sNext, sAsg, sExpr, sRet, sRetN, sIf, sPar, sAug, sFor, sNo, sSetF, RE.bind, RE.bindA, RA.bindA, RA.bind, RE.bindS, RS.bind, lift, mVar, mC, mBin, mUn, mCB, mCons, mNil, mTup, mLst, mLstC, mChain, mAnd, mOr, mNot, mIf, mTru, mCall, mFld, ar, gN, gNils, gConss, gT, List.getElem?_cons_zero, List.getElem?_cons_succ, List.set_cons_zero, List.set_cons_succ, fEqD_int, fNeD_int, fAdd_int, fSub_int, fLt_int, fLe_int, fGt_int, fGe_int, Nat.reduceSub, RSrc.bindS, RSrc.bind, RE.src, RA.src, iSeq, iEnum', Src.items, Nat.reduceAdd, reduceIte]
      rfl
    · refine ⟨ms, h', cut_rt0 ?_ ah.ln (low_tN _) ah.bx.low, ah, gm⟩
      simp only [m__law_marks, z1', d0i, decide_false, z, startD, List.map_cons, List.map_nil, List.length_cons, List.length_nil, List.replicate_succ, List.replicate_zero, List.cons_append, List.nil_append, List.append_nil, sSeq, sNext, sAsg, sExpr, sRet, sRetN, sIf, sPar, sAug, sFor, sNo, sSetF, RE.bind, RE.bindA, RA.bindA, RA.bind, RE.bindS, RS.bind, lift, mVar, mC, mBin, mUn, mCB, mCons, mNil, mTup, mLst, mLstC, mChain, mAnd, mOr, mNot, mIf, mTru, mCall, mFld, ar, gN, gNils, gConss, gT, List.getElem?_cons_zero, List.getElem?_cons_succ, List.set_cons_zero, List.set_cons_succ, fEqD_int, fNeD_int, fAdd_int, fSub_int, fLt_int, fLe_int, fGt_int, fGe_int, Nat.reduceSub, RSrc.bindS, RSrc.bind, RE.src, RA.src, iSeq, iEnum', Src.items, Nat.reduceAdd, reduceIte]
end K16

set_option Elab.async false
set_option linter.all false
set_option maxRecDepth 100000
namespace K16
open PySem PySem.Spec PyProof.Rows L2 Py
def f__law_stretches : MF := fun ds h => match ds with
  | [.tup l, .int n] => (match natsOf l with | some ms => if okS ms ∧ 0 ≤ n then .ok (.tup ((lay (szs ms n.toNat) 0).map dP)) h else .no | none => .no)
  | _ => .no
theorem me__law_stretches : Meets' 2 6 m__law_stretches f__law_stretches := by
  intro ds h hl lo bel ne
  unfold f__law_stretches at ne ⊢
  split at ne
  · next l n =>
    split at ne
    · next ms e =>
      split at ne
      · next c =>
        obtain rfl := natsOf_eq e
        obtain ⟨⟨hn, hm⟩, n0⟩ := id c
        obtain ⟨n, rfl⟩ := Int.eq_ofNat_of_zero_le n0
        obtain ⟨s', h', z, a, b, ez, eh⟩ : ∃ s' h', lp__law_stretches_0 [some (tN ms), some (dN n), none, some (.cell (h.length + 0)), some (.int 0), none] (h ++ [.lst []]) = .nx s' h' ∧
            ∃ a b, s' = [some (tN ms), some (dN n), a, some (.cell (h.length + 0)), some (dN (((szs ms n).take (ms.map dN).length).sum)), b] ∧ h' = h ++ [.lst (((lay (szs ms n) 0).take (ms.map dN).length).map dP)] :=
          sFor_all (x := .fix (ms.map dN)) (l := ms.map dN) (fun i s h' => ∃ a b, s = [some (tN ms), some (dN n), a, some (.cell (h.length + 0)), some (dN (((szs ms n).take i).sum)), b] ∧ h' = h ++ [.lst (((lay (szs ms n) 0).take i).map dP)])
            (by simp only [srcOf, startD, List.map_cons, List.map_nil, List.length_cons, List.length_nil, List.replicate_succ, List.replicate_zero, List.cons_append, List.nil_append, List.append_nil, sSeq, sNext, sAsg, sExpr, sRet, sRetN, sIf, sPar, sAug, sFor, sNo, sSetF, RE.bind, RE.bindA, RA.bindA, RA.bind, RE.bindS, RS.bind, lift, mVar, mC, mBin, mUn, mCB, mCons, mNil, mTup, mLst, mLstC, mChain, mAnd, mOr, mNot, mIf, mTru, mCall, mFld, ar, gN, gNils, gConss, gT, List.getElem?_cons_zero, List.getElem?_cons_succ, List.set_cons_zero, List.set_cons_succ, fEqD_int, fNeD_int, fAdd_int, fSub_int, fLt_int, fLe_int, fGt_int, fGe_int, Nat.reduceSub, RSrc.bindS, RSrc.bind, RE.src, RA.src, iSeq, iEnum', Src.items, Nat.reduceAdd, reduceIte]; rfl) ⟨none, none, rfl, rfl⟩ (fun i s h' _ => rfl) (fun i d s h' ⟨a, b, es, eh⟩ ed => by
            subst es eh
            rw [List.getElem?_map] at ed
            obtain ⟨m, em, rfl⟩ := Option.map_eq_some_iff.mp ed
            obtain ⟨hi, ei⟩ := List.getElem?_eq_some_iff.mp em
            have hb := hm m (List.mem_of_getElem? em)
            have ez : (szs ms n)[i]? = some ((n + m - 1) / m) := by unfold szs; rw [List.getElem?_map, em]; rfl
            have el := lay_get (szs ms n) 0 i _ ez
            have sub : (n : Int) + (m : Int) - 1 = ((n + m - 1 : Nat) : Int) := by omega
            have sz : (((lay (szs ms n) 0).take i).map dP).length < sizeLine := by
              rw [List.length_map, List.length_take, lay_length, szs_length]
              have := sz_of (n := i + 1) (m := 1000) (by omega)
              omega
            have e3 : ((lay (szs ms n) 0).take (i + 1)).map dP = ((lay (szs ms n) 0).take i).map dP ++ [.tup [dN (((szs ms n).take i).sum), .int ((((szs ms n).take i).sum : Nat) + (((n + m - 1) / m : Nat) : Int))]] := by
              rw [List.take_succ, el, Option.toList_some, List.map_append]
              simp
            have e4 : ((((szs ms n).take (i + 1)).sum : Nat) : Int) = (((szs ms n).take i).sum : Nat) + (((n + m - 1) / m : Nat) : Int) := by
              rw [List.take_succ, ez, Option.toList_some, List.sum_append]
              simp
            have dv : ∀ h' : CH, fDiv h' (.int ((n + m - 1 : Nat) : Int)) (.int (m : Int)) = some (dN ((n + m - 1) / m)) := fun h' => by
              rw [fDiv_sm h' (by omega) (bigs hb.2 b60)]
              simp
            refine ⟨_, _, _, rfl, .inl ?_, some (dN m), some (dN ((n + m - 1) / m)), rfl, rfl⟩
            have il : isLst (h ++ [.lst (((lay (szs ms n) 0).take i).map dP)]) (.cell (h.length + 0)) = true := isLst_off (i := 0) rfl
            have ap := appAt_off (h := h) (C := [.lst (((lay (szs ms n) 0).take i).map dP)]) (i := 0) (d := .tup [dN (((szs ms n).take i).sum), .int ((((szs ms n).take i).sum : Nat) + (((n + m - 1) / m : Nat) : Int))]) rfl sz
            rw [← e3] at ap
            simp only [sub, dv, mApp, il, ap, if_pos (two_ok (n := 2) (by decide)), startD, List.map_cons, List.map_nil, List.length_cons, List.length_nil, List.replicate_succ, List.replicate_zero, List.cons_append, List.nil_append, List.append_nil, sSeq, sNext, sAsg, sExpr, sRet, sRetN, sIf, sPar, sAug, sFor, sNo, sSetF, RE.bind, RE.bindA, RA.bindA, RA.bind, RE.bindS, RS.bind, lift, mVar, mC, mBin, mUn, mCB, mCons, mNil, mTup, mLst, mLstC, mChain, mAnd, mOr, mNot, mIf, mTru, mCall, mFld, ar, gN, gNils, gConss, gT, List.getElem?_cons_zero, List.getElem?_cons_succ, List.set_cons_zero, List.set_cons_succ, fEqD_int, fNeD_int, fAdd_int, fSub_int, fLt_int, fLe_int, fGt_int, fGe_int, Nat.reduceSub, RSrc.bindS, RSrc.bind, RE.src, RA.src, iSeq, iEnum', Src.items, Nat.reduceAdd, reduceIte]
            rw [← e4])
        rw [List.length_map] at ez eh
        have t1 : (lay (szs ms n) 0).take ms.length = lay (szs ms n) 0 := by
          have q : (lay (szs ms n) 0).length = ms.length := by rw [lay_length, szs_length]
          rw [← q, List.take_length]
        rw [t1] at eh
        subst ez eh
        have lo2 : lstOf (h ++ [.lst ((lay (szs ms n) 0).map dP)]) (.cell (h.length + 0)) = some ((lay (szs ms n) 0).map dP) := lstOf_off (i := 0) rfl
        have z2 : lp__law_stretches_0 [some (tN ms), some (dN n), none, some (.cell h.length), some (.int 0), none] (h ++ [.lst []]) = _ := z
        simp only [e, if_pos c, Int.toNat_natCast, m__law_stretches, if_pos (two_ok (n := 0) (by decide)), z2, startD, List.map_cons, List.map_nil, List.length_cons, List.length_nil, List.replicate_succ, List.replicate_zero, List.cons_append, List.nil_append, List.append_nil, sSeq, sNext, sAsg, sExpr, sRet, sRetN, sIf, sPar, sAug, sFor, sNo, sSetF, RE.bind, RE.bindA, RA.bindA, RA.bind, RE.bindS, RS.bind, lift, mVar, mC, mBin, mUn, mCB, mCons, mNil, mTup, mLst, mLstC, mChain, mAnd, mOr, mNot, mIf, mTru, mCall, mFld, ar, gN, gNils, gConss, gT, List.getElem?_cons_zero, List.getElem?_cons_succ, List.set_cons_zero, List.set_cons_succ, fEqD_int, fNeD_int, fAdd_int, fSub_int, fLt_int, fLe_int, fGt_int, fGe_int, Nat.reduceSub, RSrc.bindS, RSrc.bind, RE.src, RA.src, iSeq, iEnum', Src.items, Nat.reduceAdd, reduceIte]
        simp only [cTuple, lsOf, lo2, Option.map_some, startD, List.map_cons, List.map_nil, List.length_cons, List.length_nil, List.replicate_succ, List.replicate_zero, List.cons_append, List.nil_append, List.append_nil, sSeq, sNext, sAsg, sExpr, sRet, sRetN, sIf, sPar, sAug, sFor, sNo, sSetF, RE.bind, RE.bindA, RA.bindA, RA.bind, RE.bindS, RS.bind, lift, mVar, mC, mBin, mUn, mCB, mCons, mNil, mTup, mLst, mLstC, mChain, mAnd, mOr, mNot, mIf, mTru, mCall, mFld, ar, gN, gNils, gConss, gT, List.getElem?_cons_zero, List.getElem?_cons_succ, List.set_cons_zero, List.set_cons_succ, fEqD_int, fNeD_int, fAdd_int, fSub_int, fLt_int, fLe_int, fGt_int, fGe_int, Nat.reduceSub, RSrc.bindS, RSrc.bind, RE.src, RA.src, iSeq, iEnum', Src.items, Nat.reduceAdd, reduceIte]
        exact dr_rtj (low_lay _)
      · exact absurd rfl ne
    · exact absurd rfl ne
  · exact absurd rfl ne
theorem atI_last {β : Type} {l : List β} {d : β} (e : l[l.length - 1]? = some d) : atI l (-1) = some d := by
  have hi := (List.getElem?_eq_some_iff.mp e).1
  have p : 0 < l.length := by omega
  unfold atI ixN
  rw [if_neg (by omega), if_pos (by omega)]
  have q : ((-1 : Int) + (l.length : Int)).toNat = l.length - 1 := by omega
  simpa [q] using e
def f__law_goes : MF := fun ds h => match ds with
  | [.tup l, .int n] => (match natsOf l with | some ms => if okS ms ∧ 0 < ms.length ∧ 0 ≤ n then .ok (.bl (decide (sSum ms n.toNat ≤ n.toNat))) h else .no | none => .no)
  | _ => .no
theorem lay_last {ms : List Nat} {n : Nat} (p : 0 < ms.length) : ∃ a, (lay (szs ms n) 0)[ms.length - 1]? = some (a, sSum ms n) := by
  have hl : ms.length - 1 < (szs ms n).length := by rw [szs_length]; omega
  have g := lay_get (szs ms n) 0 (ms.length - 1) _ (List.getElem?_eq_getElem hl)
  have t : (szs ms n).take (ms.length - 1) ++ [(szs ms n)[ms.length - 1]] = szs ms n := by
    have := List.take_append_getElem (l := szs ms n) (i := ms.length - 1) hl
    rw [this]
    rw [List.take_of_length_le (by rw [szs_length]; omega)]
  have s : sSum ms n = ((szs ms n).take (ms.length - 1)).sum + (szs ms n)[ms.length - 1] := by
    unfold sSum
    conv => lhs; rw [← t]
    rw [List.sum_append]
    simp
  refine ⟨0 + ((szs ms n).take (ms.length - 1)).sum, ?_⟩
  rw [g, s]
  simp
theorem me__law_goes : Meets' 2 2 (m__law_goes f__law_stretches) f__law_goes := by
  intro ds h hl lo bel ne
  unfold f__law_goes at ne ⊢
  split at ne
  · next l n =>
    split at ne
    · next ms e =>
      split at ne
      · next c =>
        obtain rfl := natsOf_eq e
        obtain ⟨c1, c2, n0⟩ := id c
        obtain ⟨n, rfl⟩ := Int.eq_ofNat_of_zero_le n0
        obtain ⟨a, la⟩ := lay_last (n := n) c2
        have c3 : okS ms ∧ 0 ≤ (n : Int) := ⟨c1, n0⟩
        have ix : fIx h (.tup ((lay (szs ms n) 0).map dP)) (.int (-1)) = some (dP (a, sSum ms n)) := by
          simp only [fIx, seqOf]
          refine atI_last ?_
          rw [List.length_map, lay_length, szs_length, List.getElem?_map, la]
          rfl
        have ix2 : fIx h (dP (a, sSum ms n)) (.int 1) = some (dN (sSum ms n)) := fIx_tup (i := 1) rfl
        simp only [e, if_pos c, Int.toNat_natCast, m__law_goes, f__law_stretches, if_pos c3, fNeg_int, ix, ix2, int_le_iff, startD, List.map_cons, List.map_nil, List.length_cons, List.length_nil, List.replicate_succ, List.replicate_zero, List.cons_append, List.nil_append, List.append_nil, sSeq, sNext, sAsg, sExpr, sRet, sRetN, sIf, sPar, sAug, sFor, sNo, sSetF, RE.bind, RE.bindA, RA.bindA, RA.bind, RE.bindS, RS.bind, lift, mVar, mC, mBin, mUn, mCB, mCons, mNil, mTup, mLst, mLstC, mChain, mAnd, mOr, mNot, mIf, mTru, mCall, mFld, ar, gN, gNils, gConss, gT, List.getElem?_cons_zero, List.getElem?_cons_succ, List.set_cons_zero, List.set_cons_succ, fEqD_int, fNeD_int, fAdd_int, fSub_int, fLt_int, fLe_int, fGt_int, fGe_int, Nat.reduceSub, RSrc.bindS, RSrc.bind, RE.src, RA.src, iSeq, iEnum', Src.items, Nat.reduceAdd, reduceIte]
        exact dr_rt rfl
      · exact absurd rfl ne
    · exact absurd rfl ne
  · exact absurd rfl ne
end K16

set_option Elab.async false
set_option linter.all false
set_option maxRecDepth 100000
namespace K16
open PySem PySem.Spec PyProof.Rows L2 Py
/-- the first number that goes -/
def leastF (ms : List Nat) : Option Nat := ((List.range 2999).findIdx? fun i => decide (sSum ms (i + 1) ≤ i + 1)).map (· + 1)
def f__law_least : MF := fun ds h => match ds with
  | [.tup l] => (match natsOf l with | some ms => if okS ms ∧ 0 < ms.length then .ok (optD (leastF ms)) h else .no | none => .no)
  | _ => .no
theorem rangeD_get {lo : Int} {n i : Nat} {d : D} (e : (rangeD lo n)[i]? = some d) : i < n ∧ d = .int (lo + (i : Nat)) := by
  unfold rangeD at e
  rw [List.getElem?_map] at e
  obtain ⟨k, ek, rfl⟩ := Option.map_eq_some_iff.mp e
  obtain ⟨hi, e2⟩ := List.getElem?_eq_some_iff.mp ek
  rw [List.length_range] at hi
  rw [List.getElem_range] at e2
  subst e2
  exact ⟨hi, rfl⟩
theorem rangeD_at {lo : Int} {n i : Nat} (h : i < n) : (rangeD lo n)[i]? = some (.int (lo + (i : Nat))) := by
  unfold rangeD
  rw [List.getElem?_map, List.getElem?_range h]
  rfl
theorem range_len1 {lo : Int} (k : Nat) : (rangeD lo k).length = k := by simp [rangeD]
theorem it_least (ms : List Nat) (v : Option D) (h : CH) : iRange2 (mCons (mC (.int 1)) (mCons (mC (.int 3000)) mNil)) [some (tN ms), v] h = .ok (.fix (rangeD 1 2999)) h :=
  iC2 (i := 1) (j := 3000) rfl ⟨by omega, by omega, by omega, by omega⟩
theorem me__law_least : Meets' 1 2 (m__law_least f__law_goes) f__law_least := by
  intro ds h hl lo bel ne
  unfold f__law_least at ne ⊢
  split at ne
  · next l =>
    split at ne
    · next ms e =>
      split at ne
      · next c =>
        obtain rfl := natsOf_eq e
        obtain ⟨c1, c2⟩ := id c
        have cc : ∀ n : Nat, okS ms ∧ 0 < ms.length ∧ 0 ≤ (n : Int) := fun n => ⟨c1, c2, Int.natCast_nonneg n⟩
        have turn : ∀ (i : Nat) (h' : CH) (k : Bool), decide (sSum ms (i + 1) ≤ i + 1) = k → (sSeq (sIf (mCall 2 f__law_goes [] (mCons (mVar 0) (mCons (mVar 1) mNil))) (sSeq (sRet (mVar 1)) sNext) sNext) sNext) [some (tN ms), some (dN (i + 1))] h' = (if k then .rt (dN (i + 1)) h' else .nx [some (tN ms), some (dN (i + 1))] h') := by
          intro i h' k ek
          simp only [f__law_goes, natsOf_map, if_pos (cc (i + 1)), Int.toNat_natCast, ek, startD, List.map_cons, List.map_nil, List.length_cons, List.length_nil, List.replicate_succ, List.replicate_zero, List.cons_append, List.nil_append, List.append_nil, sSeq, sNext, sAsg, sExpr, sRet, sRetN, sIf, sPar, sAug, sFor, sNo, sSetF, RE.bind, RE.bindA, RA.bindA, RA.bind, RE.bindS, RS.bind, lift, mVar, mC, mBin, mUn, mCB, mCons, mNil, mTup, mLst, mLstC, mChain, mAnd, mOr, mNot, mIf, mTru, mCall, mFld, ar, gN, gNils, gConss, gT, List.getElem?_cons_zero, List.getElem?_cons_succ, List.set_cons_zero, List.set_cons_succ, fEqD_int, fNeD_int, fAdd_int, fSub_int, fLt_int, fLe_int, fGt_int, fGe_int, Nat.reduceSub, RSrc.bindS, RSrc.bind, RE.src, RA.src, iSeq, iEnum', Src.items, Nat.reduceAdd, reduceIte]
          cases k <;> rfl
        have e1 : ∀ i : Nat, (1 : Int) + (i : Nat) = ((i + 1 : Nat) : Int) := fun i => by omega
        simp only [if_pos c]
        cases ef : (List.range 2999).findIdx? fun i => decide (sSum ms (i + 1) ≤ i + 1) with
        | none =>
          have all : ∀ i : Nat, i < 2999 → decide (sSum ms (i + 1) ≤ i + 1) = false := fun i hi => by
            rw [List.findIdx?_eq_none_iff] at ef
            exact ef i (List.mem_range.mpr hi)
          obtain ⟨s', h', z, v, ez, eh⟩ : ∃ s' h', lp__law_least_0 f__law_goes [some (tN ms), none] h = .nx s' h' ∧ ∃ v, s' = [some (tN ms), v] ∧ h' = h :=
            sFor_all (x := .fix (rangeD 1 2999)) (l := rangeD 1 2999) (fun i s h' => ∃ v, s = [some (tN ms), v] ∧ h' = h) (it_least ms none h) ⟨none, rfl, rfl⟩ (fun i s h' _ => rfl) (fun i d s h' ⟨v, es, eh⟩ ed => by
              subst es eh
              obtain ⟨hi, rfl⟩ := rangeD_get ed
              rw [e1]
              exact ⟨_, [some (tN ms), some (dN (i + 1))], h', rfl, .inl ((turn i h' false (all i hi)).trans rfl), some (dN (i + 1)), rfl, rfl⟩)
          subst ez eh
          simp only [m__law_least, z, leastF, ef, Option.map_none, optD, startD, List.map_cons, List.map_nil, List.length_cons, List.length_nil, List.replicate_succ, List.replicate_zero, List.cons_append, List.nil_append, List.append_nil, sSeq, sNext, sAsg, sExpr, sRet, sRetN, sIf, sPar, sAug, sFor, sNo, sSetF, RE.bind, RE.bindA, RA.bindA, RA.bind, RE.bindS, RS.bind, lift, mVar, mC, mBin, mUn, mCB, mCons, mNil, mTup, mLst, mLstC, mChain, mAnd, mOr, mNot, mIf, mTru, mCall, mFld, ar, gN, gNils, gConss, gT, List.getElem?_cons_zero, List.getElem?_cons_succ, List.set_cons_zero, List.set_cons_succ, fEqD_int, fNeD_int, fAdd_int, fSub_int, fLt_int, fLe_int, fGt_int, fGe_int, Nat.reduceSub, RSrc.bindS, RSrc.bind, RE.src, RA.src, iSeq, iEnum', Src.items, Nat.reduceAdd, reduceIte]
          exact dr_rt rfl
        | some j =>
          have lf : leastF ms = some (j + 1) := by unfold leastF; rw [ef]; rfl
          rw [List.findIdx?_eq_some_iff_getElem] at ef
          obtain ⟨hj, f1, f2⟩ := ef
          rw [List.length_range] at hj
          obtain ⟨s', h', z, v, ez, eh⟩ := sFor_rt (mi := iRange2 (mCons (mC (.int 1)) (mCons (mC (.int 3000)) mNil))) (g := gN 1) (mb := sSeq (sIf (mCall 2 f__law_goes [] (mCons (mVar 0) (mCons (mVar 1) mNil))) (sSeq (sRet (mVar 1)) sNext) sNext) sNext)
            (s := [some (tN ms), none]) (h := h) (x := .fix (rangeD 1 2999)) (l := rangeD 1 2999) (fun i s h' => ∃ v, s = [some (tN ms), v] ∧ h' = h) j (by rw [range_len1]; exact hj) (dN (j + 1)) (it_least ms none h) ⟨none, rfl, rfl⟩ (fun i s h' _ => rfl) (fun i d s h' hi ⟨v, es, eh⟩ ed => by
              subst es eh
              obtain ⟨hi2, rfl⟩ := rangeD_get ed
              rw [e1]
              refine ⟨_, [some (tN ms), some (dN (i + 1))], h', rfl, .inl ((turn i h' false ?_).trans rfl), some (dN (i + 1)), rfl, rfl⟩
              have := f2 i hi
              simpa using this) (fun s h' ⟨v, es, eh⟩ => by
              subst es eh
              refine ⟨_, _, h', rangeD_at hj, rfl, ?_, v, rfl, rfl⟩
              rw [e1]
              refine (turn j h' true ?_).trans rfl
              simpa using f1)
          subst eh
          have z2 : lp__law_least_0 f__law_goes [some (tN ms), none] h' = _ := z
          simp only [m__law_least, z2, lf, optD, startD, List.map_cons, List.map_nil, List.length_cons, List.length_nil, List.replicate_succ, List.replicate_zero, List.cons_append, List.nil_append, List.append_nil, sSeq, sNext, sAsg, sExpr, sRet, sRetN, sIf, sPar, sAug, sFor, sNo, sSetF, RE.bind, RE.bindA, RA.bindA, RA.bind, RE.bindS, RS.bind, lift, mVar, mC, mBin, mUn, mCB, mCons, mNil, mTup, mLst, mLstC, mChain, mAnd, mOr, mNot, mIf, mTru, mCall, mFld, ar, gN, gNils, gConss, gT, List.getElem?_cons_zero, List.getElem?_cons_succ, List.set_cons_zero, List.set_cons_succ, fEqD_int, fNeD_int, fAdd_int, fSub_int, fLt_int, fLe_int, fGt_int, fGe_int, Nat.reduceSub, RSrc.bindS, RSrc.bind, RE.src, RA.src, iSeq, iEnum', Src.items, Nat.reduceAdd, reduceIte]
          exact dr_rt rfl
      · exact absurd rfl ne
    · exact absurd rfl ne
  · exact absurd rfl ne
end K16

set_option Elab.async false
set_option linter.all false
set_option maxRecDepth 100000
namespace K16
open PySem PySem.Spec PyProof.Rows L2 Py
/-! ### plain: places and marks of a story -/
def nxt (ms : List Nat) (N p i : Nat) : Nat := fst_ ms N i + p / ms.getD i 1
def plc (ms : List Nat) (N : Nat) : List Nat → Nat → Nat
  | [], p => p
  | i :: r, p => plc ms N r (nxt ms N p i)
def mrk (ms : List Nat) (N : Nat) : List Nat → Nat → List Nat
  | [], _ => []
  | i :: r, p => p % ms.getD i 1 :: mrk ms N r (nxt ms N p i)
theorem fwd_plc (ms : List Nat) (N : Nat) : ∀ (st : List Nat) (p : Nat) (L : List (List Nat)), (fwd ms N st p L).1 = plc ms N st p
  | [], p, L => rfl
  | i :: r, p, L => by
    simp only [fwd, plc]
    exact fwd_plc ms N r _ _
theorem fst_le {ms : List Nat} {N i m : Nat} (e : ms[i]? = some m) : fst_ ms N i + (N + m - 1) / m ≤ sSum ms N := by
  have z : (szs ms N)[i]? = some ((N + m - 1) / m) := by unfold szs; rw [List.getElem?_map, e]; rfl
  have t := List.take_append_drop (i + 1) (szs ms N)
  unfold sSum fst_
  conv => rhs; rw [← t]
  rw [List.sum_append, List.take_succ, z, Option.toList_some, List.sum_append]
  simp
theorem div_lt_ceil {p N m : Nat} (m0 : 0 < m) (h : p < N) : p / m < (N + m - 1) / m := by
  have a : (p + m) / m ≤ (N + m - 1) / m := Nat.div_le_div_right (by omega)
  rw [Nat.add_div_right p m0] at a
  omega
theorem nxt_lt {ms : List Nat} {N p i m : Nat} (e : ms[i]? = some m) (m0 : 0 < m) (h : p < N) (go : sSum ms N ≤ N) : nxt ms N p i < N := by
  have g : ms.getD i 1 = m := by rw [List.getD_eq_getElem?_getD, e]; rfl
  unfold nxt
  rw [g]
  have a := fst_le (N := N) e
  have b := div_lt_ceil m0 h
  omega
/-- stretches lie behind one another -/
theorem fst_mono {ms : List Nat} {N i j m : Nat} (e : ms[i]? = some m) (h : i < j) : fst_ ms N i + (N + m - 1) / m ≤ fst_ ms N j := by
  have z : (szs ms N)[i]? = some ((N + m - 1) / m) := by unfold szs; rw [List.getElem?_map, e]; rfl
  unfold fst_
  have s1 : ((szs ms N).take (i + 1)).sum = ((szs ms N).take i).sum + (N + m - 1) / m := by
    rw [List.take_succ, z, Option.toList_some, List.sum_append]
    simp
  rw [← s1]
  have t : (szs ms N).take j = (szs ms N).take (i + 1) ++ ((szs ms N).take j).drop (i + 1) := by
    have q := List.take_append_drop (i + 1) ((szs ms N).take j)
    rw [List.take_take, Nat.min_eq_left (by omega)] at q
    exact q.symm
  rw [t, List.sum_append]
  omega
/-- the stretch in which a deed's place lies is that of its hand -/
theorem find_nxt {ms : List Nat} {N p i m : Nat} (e : ms[i]? = some m) (m0 : 0 < m) (h : p < N) (all : ∀ x ∈ ms, 0 < x) : findS (lay (szs ms N) 0) (nxt ms N p i) = some i := by
  have g : ms.getD i 1 = m := by rw [List.getD_eq_getElem?_getD, e]; rfl
  have hi := (List.getElem?_eq_some_iff.mp e).1
  have b := div_lt_ceil m0 h
  unfold findS
  rw [List.findIdx?_eq_some_iff_getElem]
  have hl : i < (lay (szs ms N) 0).length := by rw [lay_length, szs_length]; exact hi
  have gi : ∀ (j : Nat) (hj : j < (lay (szs ms N) 0).length) (x : Nat), ms[j]? = some x → (lay (szs ms N) 0)[j] = (fst_ ms N j, fst_ ms N j + (N + x - 1) / x) := by
    intro j hj x ex
    have z : (szs ms N)[j]? = some ((N + x - 1) / x) := by unfold szs; rw [List.getElem?_map, ex]; rfl
    have q := lay_get (szs ms N) 0 j _ z
    rw [List.getElem?_eq_getElem hj] at q
    have q' := Option.some.inj q
    rw [q']
    simp [fst_]
  refine ⟨hl, ?_, fun j hj => ?_⟩
  · rw [gi i hl m e]
    simp only [decide_eq_true_eq]
    unfold nxt
    rw [g]
    generalize p / m = q at b ⊢
    generalize (N + m - 1) / m = t at b ⊢
    omega
  · have hj2 : j < (lay (szs ms N) 0).length := by omega
    have hjm : j < ms.length := by omega
    rw [gi j hj2 ms[j] (List.getElem?_eq_getElem hjm)]
    have mo := fst_mono (N := N) (List.getElem?_eq_getElem hjm) hj
    simp only [decide_eq_true_eq]
    unfold nxt
    rw [g]
    generalize p / m = q
    generalize (N + ms[j] - 1) / ms[j] = t at mo ⊢
    omega
/-- and its mark leads back -/
theorem ahead_nxt {ms : List Nat} {N p i m : Nat} (e : ms[i]? = some m) (h : p < N) : aheadN ms N (nxt ms N p i) i m (p % m) = some p := by
  have g : ms.getD i 1 = m := by rw [List.getD_eq_getElem?_getD, e]; rfl
  unfold aheadN nxt
  rw [g, Nat.add_sub_cancel_left]
  have q : p / m * m + p % m = p := by rw [Nat.mul_comm]; exact Nat.div_add_mod p m
  rw [q, if_pos h]
end K16

set_option Elab.async false
set_option linter.all false
set_option maxRecDepth 100000
namespace K16
open PySem PySem.Spec PyProof.Rows L2 Py
theorem plc_append (ms : List Nat) (N : Nat) : ∀ (a b : List Nat) (p : Nat), plc ms N (a ++ b) p = plc ms N b (plc ms N a p)
  | [], _, _ => rfl
  | i :: a, b, p => by
    rw [List.cons_append]
    simp only [plc]
    exact plc_append ms N a b _
theorem plc_lt {ms : List Nat} {N : Nat} (go : sSum ms N ≤ N) (all : ∀ x ∈ ms, 0 < x) : ∀ (a : List Nat) (p : Nat), p < N → (∀ i ∈ a, i < ms.length) → plc ms N a p < N
  | [], p, h, _ => h
  | i :: a, p, h, ha => by
    simp only [plc]
    have hi := ha i List.mem_cons_self
    have e : ms[i]? = some ms[i] := List.getElem?_eq_getElem hi
    exact plc_lt go all a _ (nxt_lt e (all _ (List.getElem_mem hi)) h go) fun j m => ha j (List.mem_cons_of_mem _ m)
/-- the way back undoes the way forward -/
theorem bwd_fwd {ms : List Nat} {N p : Nat} {lgs : List (List Nat)} (go : sSum ms N ≤ N) (all : ∀ x ∈ ms, 0 < x) (hp : p < N) (hl : lgs.length = ms.length) :
    ∀ (n K : Nat) (a fd : List Nat), a.length = n → n < K → (∀ i ∈ a, i < ms.length) → (∀ (i : Nat) (x : List Nat), (fwd ms N a p (emp ms)).2[i]? = some x → ∃ y, lgs[i]? = some (x ++ y)) →
      bwd ms N lgs K (plc ms N a p) ((fwd ms N a p (emp ms)).2.map List.length) fd = (fd ++ a.reverse, p)
  | _, 0, _, _, _, h, _, _ => absurd h (Nat.not_lt_zero _)
  | 0, K + 1, a, fd, la, _, _, _ => by
    have ea : a = [] := List.length_eq_zero_iff.mp la
    subst ea
    unfold bwd
    have z : ((fwd ms N [] p (emp ms)).2.map List.length).any (fun c => c != 0) = false := by
      simp [fwd, emp]
    rw [z]
    simp [plc]
  | n + 1, K + 1, a, fd, la, lk, ha, pre => by
    obtain ⟨b, i, rfl⟩ : ∃ b i, a = b ++ [i] := by
      have ne : a ≠ [] := fun z => by rw [z] at la; cases la
      exact ⟨a.dropLast, a.getLast ne, (List.dropLast_concat_getLast ne).symm⟩
    have hb : ∀ j ∈ b, j < ms.length := fun j m => ha j (List.mem_append_left _ m)
    have hi : i < ms.length := ha i (by simp)
    have lb : b.length = n := by simpa using la
    have e : ms[i]? = some ms[i] := List.getElem?_eq_getElem hi
    have g : ms.getD i 1 = ms[i] := by rw [List.getD_eq_getElem?_getD, e]; rfl
    have m0 := all _ (List.getElem_mem hi)
    have qN := plc_lt go all b p hp hb
    have ef := fwd_append ms N b [i] p (emp ms)
    simp only [fwd, fwd_plc] at ef
    generalize hL : (fwd ms N b p (emp ms)).2 = L at ef
    have lL : L.length = ms.length := by rw [← hL, fwd_length]; simp
    have gL : L[i]? = some (L.getD i []) := by rw [List.getD_eq_getElem?_getD, List.getElem?_eq_getElem (by omega)]; rfl
    have e2 : (fwd ms N (b ++ [i]) p (emp ms)).2 = L.set i (L.getD i [] ++ [plc ms N b p % ms[i]]) := by rw [ef, g]
    have e3 : plc ms N (b ++ [i]) p = nxt ms N (plc ms N b p) i := by rw [plc_append]; rfl
    obtain ⟨y, gy⟩ := pre i (L.getD i [] ++ [plc ms N b p % ms[i]]) (by rw [e2, List.getElem?_set_self (by omega)])
    have rec_ := bwd_fwd go all hp hl n K b (fd ++ [i]) lb (by omega) hb (fun j x ex => by
      rw [hL] at ex
      by_cases hj : i = j
      · subst hj
        rw [gL] at ex
        cases ex
        exact ⟨[plc ms N b p % ms[i]] ++ y, by rw [gy, List.append_assoc]⟩
      · exact pre j x (by rw [e2, List.getElem?_set_ne hj]; exact ex))
    rw [hL] at rec_
    rw [e2, e3]
    have c1 : ((L.set i (L.getD i [] ++ [plc ms N b p % ms[i]])).map List.length) = (L.map List.length).set i ((L.getD i []).length + 1) := by
      rw [List.map_set]
      simp
    rw [c1]
    have lm : i < (L.map List.length).length := by rw [List.length_map]; omega
    have c2 : ((L.map List.length).set i ((L.getD i []).length + 1)).getD i 0 = (L.getD i []).length + 1 := by
      rw [List.getD_eq_getElem?_getD, List.getElem?_set_self lm]
      rfl
    have c3 : ((L.map List.length).set i ((L.getD i []).length + 1)).any (fun c => c != 0) = true := by
      rw [List.any_eq_true]
      exact ⟨_, List.mem_of_getElem? (List.getElem?_set_self lm), by simp⟩
    have c4 : (lgs.getD i []).getD (L.getD i []).length 0 = plc ms N b p % ms[i] := by
      rw [List.getD_eq_getElem?_getD (l := lgs), gy]
      simp [List.getD_eq_getElem?_getD]
    have c5 : ((L.map List.length).set i ((L.getD i []).length + 1)).set i (L.getD i []).length = L.map List.length := by
      rw [List.set_set]
      apply List.ext_getElem?
      intro j
      by_cases hj : i = j
      · subst hj
        rw [List.getElem?_set_self lm, List.getElem?_map, gL]
        rfl
      · rw [List.getElem?_set_ne hj]
    unfold bwd
    rw [c3, if_pos rfl, find_nxt e m0 qN all]
    simp only [c2, Nat.add_sub_cancel, g, c4, ahead_nxt e qN, c5]
    rw [if_neg (Nat.succ_ne_zero _), rec_]
    simp
end K16

set_option Elab.async false
set_option linter.all false
set_option maxRecDepth 100000
namespace K16
open PySem PySem.Spec PyProof.Rows L2 Py
theorem lcm_fold : ∀ (l : List Nat) (a : Nat), a ∣ l.foldl Nat.lcm a ∧ ∀ m ∈ l, m ∣ l.foldl Nat.lcm a
  | [], a => ⟨Nat.dvd_refl a, by simp⟩
  | x :: l, a => by
    obtain ⟨h1, h2⟩ := lcm_fold l (Nat.lcm a x)
    rw [List.foldl_cons]
    refine ⟨Nat.dvd_trans (Nat.dvd_lcm_left a x) h1, fun m mm => ?_⟩
    rcases List.mem_cons.mp mm with q | q
    · rw [q]
      exact Nat.dvd_trans (Nat.dvd_lcm_right a x) h1
    · exact h2 m q
theorem lcm_prod : ∀ (l : List Nat) (a b : Nat), a ∣ b → l.foldl Nat.lcm a ∣ l.foldl (· * ·) b
  | [], a, b, h => h
  | x :: l, a, b, h => by
    rw [List.foldl_cons, List.foldl_cons]
    exact lcm_prod l _ _ (Nat.lcm_dvd (Nat.dvd_trans h (Nat.dvd_mul_right b x)) (Nat.dvd_mul_left x b))
theorem sum_scale (c : Nat) (f : Nat → Nat) : ∀ l : List Nat, (l.map fun m => c * f m).sum = c * (l.map f).sum
  | [] => by simp
  | x :: l => by simp [sum_scale c f l, Nat.mul_add]
theorem tells_iff {ms : List Nat} (h : ∀ m ∈ ms, 1 ≤ m ∧ m ≤ 60) : sumP ms ≤ prodL ms ↔ sumL ms ≤ lcmL ms := by
  obtain ⟨c, hc⟩ := lcm_prod ms 1 1 (Nat.dvd_refl 1)
  have e0 : prodL ms = lcmL ms * c := hc
  have p0 : 0 < prodL ms := by
    have := (prod_take h ms.length (Nat.le_refl _)).1
    rw [List.take_length] at this
    exact this
  have c0 : 0 < c := by
    rcases Nat.eq_zero_or_pos c with z | z
    · rw [z, Nat.mul_zero] at e0; omega
    · exact z
  have e1 : sumP ms = c * sumL ms := by
    unfold sumP sumL
    rw [← sum_scale c (fun m => lcmL ms / m) ms]
    congr 1
    refine List.map_congr_left fun m mm => ?_
    rw [e0, Nat.mul_comm]
    exact Nat.mul_div_assoc c ((lcm_fold ms 1).2 m mm)
  rw [e1, e0, Nat.mul_comm (lcmL ms) c]
  exact ⟨fun z => Nat.le_of_mul_le_mul_left z c0, fun z => Nat.mul_le_mul_left c z⟩
theorem sSum_mono {ms : List Nat} {a b : Nat} (h : a ≤ b) : sSum ms a ≤ sSum ms b := by
  unfold sSum szs
  induction ms with
  | nil => simp
  | cons m ms ih =>
    simp only [List.map_cons, List.sum_cons]
    exact Nat.add_le_add (Nat.div_le_div_right (by omega)) ih
theorem least_it {ms : List Nat} {r : Nat} (go : sSum ms r ≤ r) (first : ∀ n, 1 ≤ n → n < r → ¬ sSum ms n ≤ n) : ∀ (k n : Nat), 1 ≤ n → n ≤ r → r - n < k → leastIt ms k n = some r
  | 0, _, _, _, h => absurd h (Nat.not_lt_zero _)
  | k + 1, n, h1, h2, h3 => by
    unfold leastIt
    split
    · next lt =>
      have q := Nat.le_trans (sSum_mono (ms := ms) h2) go
      exact least_it go first k _ (by omega) q (by omega)
    · next lt =>
      by_cases e : n = r
      · rw [e]
      · exact absurd (by omega) (first n h1 (by omega))
theorem leastF_spec {ms : List Nat} {r : Nat} (e : leastF ms = some r) : 1 ≤ r ∧ r < 3000 ∧ sSum ms r ≤ r ∧ ∀ n, 1 ≤ n → n < r → ¬ sSum ms n ≤ n := by
  unfold leastF at e
  simp only [Option.map_eq_some_iff] at e
  obtain ⟨j, e1, rfl⟩ := e
  rw [List.findIdx?_eq_some_iff_getElem] at e1
  obtain ⟨hj, f1, f2⟩ := e1
  rw [List.length_range] at hj
  rw [List.getElem_range] at f1
  refine ⟨by omega, by omega, by simpa using f1, fun n h1 h2 => ?_⟩
  have q := f2 (n - 1) (by omega)
  rw [List.getElem_range] at q
  rw [show n - 1 + 1 = n from by omega] at q
  simpa using q
theorem least_eq {ms : List Nat} {r : Nat} (e : leastF ms = some r) (h : r ≤ 60) : leastIt ms 100 1 = some r := by
  obtain ⟨a, _, b, c⟩ := leastF_spec e
  exact least_it b c 100 1 (Nat.le_refl 1) a (by omega)
end K16

set_option Elab.async false
set_option linter.all false
set_option maxRecDepth 100000
namespace K16
open PySem PySem.Spec PyProof.Rows L2 Py
/-! ### the law's moves, as data -/
abbrev cellD (ms : List Nat) (N p i : Nat) : D := .tup [dN (nxt ms N p i), dN (p % ms.getD i 1)]
abbrev rowD (ms : List Nat) (N p : Nat) : D := .lst ((List.range ms.length).map fun i => cellD ms N p i)
abbrev movD (ms : List Nat) (N : Nat) : D := .lst ((List.range N).map fun p => rowD ms N p)
theorem ix_row {ms : List Nat} {N p : Nat} (h : CH) (hp : p < N) : fIx h (movD ms N) (dN p) = some (rowD ms N p) :=
  fIx_lst (by rw [List.getElem?_map, List.getElem?_range hp]; rfl)
theorem ix_cell {ms : List Nat} {N p i : Nat} (h : CH) (hi : i < ms.length) : fIx h (rowD ms N p) (dN i) = some (cellD ms N p i) :=
  fIx_lst (by rw [List.getElem?_map, List.getElem?_range hi]; rfl)
theorem mrk_append (ms : List Nat) (N : Nat) : ∀ (a b : List Nat) (p : Nat), mrk ms N (a ++ b) p = mrk ms N a p ++ mrk ms N b (plc ms N a p)
  | [], _, _ => rfl
  | i :: a, b, p => by
    rw [List.cons_append]
    simp only [mrk, plc, List.cons_append]
    rw [mrk_append ms N a b]
theorem mrk_length (ms : List Nat) (N : Nat) : ∀ (a : List Nat) (p : Nat), (mrk ms N a p).length = a.length
  | [], _ => rfl
  | i :: a, p => by simp [mrk, mrk_length ms N a]
def f__law_run : MF := cutF 6 m__law_run
theorem mapOpt_nats {f : D → Option D} (hf : ∀ n : Nat, f (dN n) = some (dN n)) : ∀ ns : List Nat, mapOpt f (ns.map dN) = some (ns.map dN)
  | [] => rfl
  | n :: ns => by
    rw [List.map_cons]
    unfold mapOpt
    rw [hf n]
    simp only [mapOpt_nats hf ns]
theorem frD_cell {h : CH} {n k m : Nat} {ds es : List D} (l : ¬ m < n) (e : h[m]? = some (.lst ds)) (q : mapOpt (frD h n k) ds = some es) : frD h n (k + 1) (.cell m) = some (.lst es) := by
  simp only [frD, if_neg l, e]
  have q' := congrArg (Option.map D.lst) q
  exact q'
theorem run_ok {ms st : List Nat} {N p : Nat} {h : CH} (go : sSum ms N ≤ N) (all : ∀ x ∈ ms, 0 < x) (hp : p < N) (hs : ∀ i ∈ st, i < ms.length) (sl : st.length ≤ 10000) (bl : ∀ c ∈ h, c.low h.length = true) {v : D} (ev : seqF v = some (st.map dN)) :
    f__law_run [movD ms N, v, dN p] h = .ok (.tup [dN (plc ms N st p), .lst ((mrk ms N st p).map dN)]) h := by
  obtain ⟨s', h', z, a, b, ez, eh⟩ : ∃ s' h', lp__law_run_0 [some (movD ms N), some v, some (dN p), some (.cell (h.length + 0)), none, none] (h ++ [.lst []]) = .nx s' h' ∧
      ∃ a b, s' = [some (movD ms N), some v, some (dN (plc ms N (st.take (st.map dN).length) p)), some (.cell (h.length + 0)), a, b] ∧ h' = h ++ [.lst ((mrk ms N (st.take (st.map dN).length) p).map dN)] :=
    sFor_all (x := .fix (st.map dN)) (l := st.map dN) (fun i s h' => ∃ a b, s = [some (movD ms N), some v, some (dN (plc ms N (st.take i) p)), some (.cell (h.length + 0)), a, b] ∧ h' = h ++ [.lst ((mrk ms N (st.take i) p).map dN)])
      (by simp only [seqF_src ev, startD, List.map_cons, List.map_nil, List.length_cons, List.length_nil, List.replicate_succ, List.replicate_zero, List.cons_append, List.nil_append, List.append_nil, sSeq, sNext, sAsg, sExpr, sRet, sRetN, sIf, sPar, sAug, sFor, sNo, sSetF, RE.bind, RE.bindA, RA.bindA, RA.bind, RE.bindS, RS.bind, lift, mVar, mC, mBin, mUn, mCB, mCons, mNil, mTup, mLst, mLstC, mChain, mAnd, mOr, mNot, mIf, mTru, mCall, mFld, ar, gN, gNils, gConss, gT, List.getElem?_cons_zero, List.getElem?_cons_succ, List.set_cons_zero, List.set_cons_succ, fEqD_int, fNeD_int, fAdd_int, fSub_int, fLt_int, fLe_int, fGt_int, fGe_int, Nat.reduceSub, RSrc.bindS, RSrc.bind, RE.src, RA.src, iSeq, iEnum', Src.items, Nat.reduceAdd, reduceIte]; rfl) ⟨none, none, rfl, rfl⟩ (fun i s h' _ => rfl) (fun i d s h' ⟨a, b, es, eh⟩ ed => by
      subst es eh
      rw [List.getElem?_map] at ed
      obtain ⟨k, ek, rfl⟩ := Option.map_eq_some_iff.mp ed
      have hk := hs k (List.mem_of_getElem? ek)
      have et : st.take (i + 1) = st.take i ++ [k] := by rw [List.take_succ, ek]; rfl
      have qN := plc_lt go all (st.take i) p hp fun j m => hs j (List.mem_of_mem_take m)
      have tl : (st.take i).length ≤ st.length := by rw [List.length_take]; omega
      have e1 : plc ms N (st.take (i + 1)) p = nxt ms N (plc ms N (st.take i) p) k := by rw [et, plc_append]; rfl
      have e2 : mrk ms N (st.take (i + 1)) p = mrk ms N (st.take i) p ++ [plc ms N (st.take i) p % ms.getD k 1] := by rw [et, mrk_append]; rfl
      generalize hq : plc ms N (st.take i) p = q at qN e1 e2
      have sz : ((mrk ms N (st.take i) p).map dN).length < sizeLine := by
        rw [List.length_map, mrk_length]
        have := sz_of (n := (st.take i).length + 1) (m := 10001) (by omega)
        omega
      have il : isLst (h ++ [.lst ((mrk ms N (st.take i) p).map dN)]) (.cell (h.length + 0)) = true := isLst_off (i := 0) rfl
      have ap := appAt_off (h := h) (C := [.lst ((mrk ms N (st.take i) p).map dN)]) (i := 0) (d := dN (q % ms.getD k 1)) rfl sz
      have e4 : (mrk ms N (st.take i) p).map dN ++ [dN (q % ms.getD k 1)] = (mrk ms N (st.take (i + 1)) p).map dN := by rw [e2, List.map_append]; rfl
      rw [e4] at ap
      refine ⟨_, [some (movD ms N), some v, some (dN (nxt ms N q k)), some (.cell (h.length + 0)), some (dN k), some (dN (q % ms.getD k 1))], h ++ [.lst ((mrk ms N (st.take (i + 1)) p).map dN)], rfl, .inl ?_, some (dN k), some (dN (q % ms.getD k 1)), by rw [e1], rfl⟩
      simp only [ix_row _ qN, ix_cell _ hk, mApp, il, ap, startD, List.map_cons, List.map_nil, List.length_cons, List.length_nil, List.replicate_succ, List.replicate_zero, List.cons_append, List.nil_append, List.append_nil, sSeq, sNext, sAsg, sExpr, sRet, sRetN, sIf, sPar, sAug, sFor, sNo, sSetF, RE.bind, RE.bindA, RA.bindA, RA.bind, RE.bindS, RS.bind, lift, mVar, mC, mBin, mUn, mCB, mCons, mNil, mTup, mLst, mLstC, mChain, mAnd, mOr, mNot, mIf, mTru, mCall, mFld, ar, gN, gNils, gConss, gT, List.getElem?_cons_zero, List.getElem?_cons_succ, List.set_cons_zero, List.set_cons_succ, fEqD_int, fNeD_int, fAdd_int, fSub_int, fLt_int, fLe_int, fGt_int, fGe_int, Nat.reduceSub, RSrc.bindS, RSrc.bind, RE.src, RA.src, iSeq, iEnum', Src.items, Nat.reduceAdd, reduceIte])
  rw [List.length_map, List.take_length] at ez eh
  subst ez eh
  have z2 : lp__law_run_0 [some (movD ms N), some v, some (dN p), some (.cell h.length), none, none] (h ++ [.lst []]) = _ := z
  refine cutF_rt (d := .tup [dN (plc ms N st p), .cell (h.length + 0)]) (hh := h) (j := [.lst ((mrk ms N st p).map dN)]) ?_ rfl ?_ bl
  · simp only [m__law_run, if_pos (two_ok (n := 0) (by decide)), if_pos (two_ok (n := 2) (by decide)), z2, startD, List.map_cons, List.map_nil, List.length_cons, List.length_nil, List.replicate_succ, List.replicate_zero, List.cons_append, List.nil_append, List.append_nil, sSeq, sNext, sAsg, sExpr, sRet, sRetN, sIf, sPar, sAug, sFor, sNo, sSetF, RE.bind, RE.bindA, RA.bindA, RA.bind, RE.bindS, RS.bind, lift, mVar, mC, mBin, mUn, mCB, mCons, mNil, mTup, mLst, mLstC, mChain, mAnd, mOr, mNot, mIf, mTru, mCall, mFld, ar, gN, gNils, gConss, gT, List.getElem?_cons_zero, List.getElem?_cons_succ, List.set_cons_zero, List.set_cons_succ, fEqD_int, fNeD_int, fAdd_int, fSub_int, fLt_int, fLe_int, fGt_int, fGe_int, Nat.reduceSub, RSrc.bindS, RSrc.bind, RE.src, RA.src, iSeq, iEnum', Src.items, Nat.reduceAdd, reduceIte]
  · have g : (h ++ [.lst ((mrk ms N st p).map dN)])[h.length + 0]? = some (.lst ((mrk ms N st p).map dN)) := at_off (i := 0) rfl
    have c1 : frD (h ++ [.lst ((mrk ms N st p).map dN)]) h.length 8 (.cell (h.length + 0)) = some (.lst ((mrk ms N st p).map dN)) := frD_cell (by omega) g (mapOpt_nats (f := frD (h ++ [.lst ((mrk ms N st p).map dN)]) h.length 7) (fun n => rfl) _)
    show (mapOpt (frD (h ++ [.lst ((mrk ms N st p).map dN)]) h.length 8) [dN (plc ms N st p), .cell (h.length + 0)]).map D.tup = _
    simp only [mapOpt, c1]
    rfl
end K16

set_option Elab.async false
set_option linter.all false
set_option maxRecDepth 100000
namespace K16
open PySem PySem.Spec PyProof.Rows L2 Py
/-- marks laid down hand by hand -/
def laidL : List Nat → List Nat → List (List Nat) → List (List Nat)
  | i :: r, x :: xs, L => laidL r xs (L.set i (L.getD i [] ++ [x]))
  | _, _, L => L
theorem fwd_laid (ms : List Nat) (N : Nat) : ∀ (st : List Nat) (p : Nat) (L : List (List Nat)), (fwd ms N st p L).2 = laidL st (mrk ms N st p) L
  | [], p, L => rfl
  | i :: r, p, L => by
    simp only [fwd, mrk, laidL]
    exact fwd_laid ms N r _ _
theorem laidL_take : ∀ (st xs : List Nat) (L : List (List Nat)) (n i x : Nat), st[n]? = some i → xs[n]? = some x →
    laidL (st.take (n + 1)) (xs.take (n + 1)) L = (laidL (st.take n) (xs.take n) L).set i ((laidL (st.take n) (xs.take n) L).getD i [] ++ [x])
  | [], _, _, _, _, _, e, _ => by simp at e
  | _ :: _, [], _, _, _, _, _, e => by simp at e
  | a :: st, b :: xs, L, 0, i, x, e1, e2 => by
    simp at e1 e2
    subst e1 e2
    simp [laidL]
  | a :: st, b :: xs, L, n + 1, i, x, e1, e2 => by
    simp only [List.getElem?_cons_succ] at e1 e2
    simp only [List.take_succ_cons, laidL]
    exact laidL_take st xs _ n i x e1 e2
/-- the story of the way back, walked forward, comes back to the place -/
theorem nxt_ahead {ms : List Nat} {N p i m x q : Nat} (e : ms[i]? = some m) (hf : findS (lay (szs ms N) 0) p = some i) (hx : x < m) (ha : aheadN ms N p i m x = some q) : nxt ms N q i = p ∧ q % m = x ∧ q < N := by
  obtain ⟨hi, f1, f2⟩ := findS_some hf
  have g : ms.getD i 1 = m := by rw [List.getD_eq_getElem?_getD, e]; rfl
  unfold aheadN at ha
  split at ha
  · next lt =>
    cases ha
    unfold nxt
    rw [g]
    have m0 : 0 < m := by omega
    have d : ((p - fst_ ms N i) * m + x) / m = p - fst_ ms N i := by
      rw [Nat.mul_comm, Nat.mul_add_div m0, Nat.div_eq_of_lt hx, Nat.add_zero]
    refine ⟨by rw [d]; omega, ?_, lt⟩
    rw [Nat.mul_comm, Nat.mul_add_mod]
    exact Nat.mod_eq_of_lt hx
  · cases ha
end K16

set_option Elab.async false
set_option linter.all false
set_option maxRecDepth 100000
namespace K16
open PySem PySem.Spec PyProof.Rows L2 Py
theorem bwd_end {ms : List Nat} {N : Nat} {lgs : List (List Nat)} (ok : okLogs ms lgs) : ∀ (K p : Nat) (cs fd : List Nat), p < N → cs.length = ms.length → (∀ (i c : Nat) (lg : List Nat), cs[i]? = some c → lgs[i]? = some lg → c ≤ lg.length) →
    ∃ tl, (bwd ms N lgs K p cs fd).1 = fd ++ tl ∧ (∀ i ∈ tl, i < ms.length) ∧ (bwd ms N lgs K p cs fd).2 < N ∧ plc ms N tl.reverse (bwd ms N lgs K p cs fd).2 = p
  | 0, p, cs, fd, h, _, _ => ⟨[], by simp [bwd], by simp, by simpa [bwd] using h, by simp [bwd, plc]⟩
  | K + 1, p, cs, fd, h, lc, le => by
    unfold bwd
    split
    · split
      · exact ⟨[], by simp, by simp, h, by simp [plc]⟩
      · next i hS =>
        split
        · exact ⟨[], by simp, by simp, h, by simp [plc]⟩
        · next hc =>
          split
          · exact ⟨[], by simp, by simp, h, by simp [plc]⟩
          · next q hq =>
            obtain ⟨hi, _, _⟩ := findS_some hS
            have e : ms[i]? = some ms[i] := List.getElem?_eq_getElem hi
            have g : ms.getD i 1 = ms[i] := by rw [List.getD_eq_getElem?_getD, e]; rfl
            have gc : cs[i]? = some (cs.getD i 0) := by rw [List.getD_eq_getElem?_getD, List.getElem?_eq_getElem (by omega)]; rfl
            have gl : lgs[i]? = some (lgs.getD i []) := by rw [List.getD_eq_getElem?_getD, List.getElem?_eq_getElem (by rw [ok.1]; exact hi)]; rfl
            have cl := le i _ _ gc gl
            have hlt : cs.getD i 0 - 1 < (lgs.getD i []).length := by omega
            have gx : (lgs.getD i []).getD (cs.getD i 0 - 1) 0 ∈ lgs.getD i [] := by
              rw [List.getD_eq_getElem?_getD (l := lgs.getD i []), List.getElem?_eq_getElem hlt]
              exact List.getElem_mem hlt
            have hx := ok.2.2 i _ _ gl e _ gx
            rw [g] at hq
            obtain ⟨n1, n2, n3⟩ := nxt_ahead e hS hx hq
            obtain ⟨tl, t1, t2, t3, t4⟩ := bwd_end ok K q (cs.set i (cs.getD i 0 - 1)) (fd ++ [i]) n3 (by rw [List.length_set]; exact lc) (fun j d lg e1 e2 => by
              by_cases hj : i = j
              · subst hj
                rw [List.getElem?_set_self (by omega)] at e1
                cases e1
                rw [gl] at e2
                cases e2
                omega
              · rw [List.getElem?_set_ne hj] at e1
                exact le j d lg e1 e2)
            refine ⟨i :: tl, by rw [t1]; simp, fun j mj => ?_, t3, ?_⟩
            · rcases List.mem_cons.mp mj with z | z
              · rw [z]; exact hi
              · exact t2 j z
            · rw [List.reverse_cons, plc_append, t4]
              exact n1
    · exact ⟨[], by simp, by simp, h, by simp [plc]⟩
end K16

set_option Elab.async false
set_option linter.all false
set_option maxRecDepth 100000
namespace K16
open PySem PySem.Spec PyProof.Rows L2 Py
def f__law_laid : MF := cutM 7 m__law_laid
theorem rangeD0 (n : Nat) : rangeD 0 n = (List.range n).map fun i => dN i := by
  unfold rangeD
  refine List.map_congr_left fun i _ => ?_
  simp
theorem laid_cells (n : Nat) (hn : n ≤ 1000) (h : CH) (a b c d e f : Option D) : lc__law_laid_0 [some (dN n), a, b, c, d, e, f] h = .ok (.lst ((List.range n).map fun i => .cell (h.length + i))) (h ++ cL (List.replicate n [])) := by
  have z := mLc_cells (mi := iRange1 (mCons (mVar 0) mNil)) (gm := gN 4) (me := mLstC mNil) (vs := [4]) (s := [some (dN n), a, b, c, d, e, f]) (h := h) (h1 := h) (xs := List.range n) (fun i => dN i) (fun _ => .lst [])
    (by rw [← rangeD0]; exact iR1 (by simp only [startD, List.map_cons, List.map_nil, List.length_cons, List.length_nil, List.replicate_succ, List.replicate_zero, List.cons_append, List.nil_append, List.append_nil, sSeq, sNext, sAsg, sExpr, sRet, sRetN, sIf, sPar, sAug, sFor, sNo, sSetF, RE.bind, RE.bindA, RA.bindA, RA.bind, RE.bindS, RS.bind, lift, mVar, mC, mBin, mUn, mCB, mCons, mNil, mTup, mLst, mLstC, mChain, mAnd, mOr, mNot, mIf, mTru, mCall, mFld, ar, gN, gNils, gConss, gT, List.getElem?_cons_zero, List.getElem?_cons_succ, List.set_cons_zero, List.set_cons_succ, fEqD_int, fNeD_int, fAdd_int, fSub_int, fLt_int, fLe_int, fGt_int, fGe_int, Nat.reduceSub, RSrc.bindS, RSrc.bind, RE.src, RA.src, iSeq, iEnum', Src.items, Nat.reduceAdd, reduceIte]) (by omega)) (by rw [List.length_range]; exact sz_of hn) fun y _ => ⟨_, rfl, fun C => by simp only [if_pos (two_ok (n := 0) (by decide)), List.length_append, startD, List.map_cons, List.map_nil, List.length_cons, List.length_nil, List.replicate_succ, List.replicate_zero, List.cons_append, List.nil_append, List.append_nil, sSeq, sNext, sAsg, sExpr, sRet, sRetN, sIf, sPar, sAug, sFor, sNo, sSetF, RE.bind, RE.bindA, RA.bindA, RA.bind, RE.bindS, RS.bind, lift, mVar, mC, mBin, mUn, mCB, mCons, mNil, mTup, mLst, mLstC, mChain, mAnd, mOr, mNot, mIf, mTru, mCall, mFld, ar, gN, gNils, gConss, gT, List.getElem?_cons_zero, List.getElem?_cons_succ, List.set_cons_zero, List.set_cons_succ, fEqD_int, fNeD_int, fAdd_int, fSub_int, fLt_int, fLe_int, fGt_int, fGe_int, Nat.reduceSub, RSrc.bindS, RSrc.bind, RE.src, RA.src, iSeq, iEnum', Src.items, Nat.reduceAdd, reduceIte]⟩
  rw [List.length_range] at z
  have em : (List.range n).map (fun _ => Cell.lst []) = cL (List.replicate n []) := by
    simp only [cL, List.map_replicate, List.map_nil]
    rw [List.map_const']
    simp
  rw [em] at z
  exact z
end K16

set_option Elab.async false
set_option linter.all false
set_option maxRecDepth 100000
namespace K16
open PySem PySem.Spec PyProof.Rows L2 Py
theorem laidL_length : ∀ (st xs : List Nat) (L : List (List Nat)), (laidL st xs L).length = L.length
  | [], _, L => by simp [laidL]
  | _ :: _, [], L => by simp [laidL]
  | i :: r, x :: xs, L => by
    simp only [laidL]
    rw [laidL_length r xs]
    simp
theorem laidL_each : ∀ (st xs : List Nat) (L : List (List Nat)) (n : Nat), (∀ lg ∈ L, lg.length ≤ n) → ∀ lg ∈ laidL st xs L, lg.length ≤ n + st.length
  | [], _, L, n, h => fun lg m => Nat.le_trans (h lg (by simpa [laidL] using m)) (Nat.le_add_right _ _)
  | _ :: _, [], L, n, h => fun lg m => Nat.le_trans (h lg (by simpa [laidL] using m)) (Nat.le_add_right _ _)
  | i :: r, x :: xs, L, n, h => by
    intro lg m
    simp only [laidL] at m
    have := laidL_each r xs _ (n + 1) (fun l ml => ?_) lg m
    · simp; omega
    · rcases List.mem_or_eq_of_mem_set ml with q | q
      · have := h l q; omega
      · subst q
        rw [List.length_append]
        by_cases hi : i < L.length
        · rw [List.getD_eq_getElem?_getD, List.getElem?_eq_getElem hi]
          have := h _ (List.getElem_mem hi)
          simpa using this
        · rw [List.getD_eq_getElem?_getD, List.getElem?_eq_none (by omega)]
          simp
theorem getD_get {β : Type} {l : List β} {i : Nat} {d : β} (h : i < l.length) : l[i]? = some (l.getD i d) := by
  rw [List.getD_eq_getElem?_getD, List.getElem?_eq_getElem h]; rfl
/-- lists of cells, read off -/
abbrev celR (h : CH) (n : Nat) : D := .lst ((List.range n).map fun i => .cell (h.length + i))
theorem range_getD {β γ : Type} (f : β → γ) (d : β) (L : List β) (n : Nat) (e : L.length = n) : ((List.range n).map fun i => f (L.getD i d)) = L.map f := by
  apply List.ext_getElem
  · simp [e]
  · intro i h1 h2
    simp
    rw [List.getElem?_eq_getElem (by simpa using h2)]
    rfl
theorem cL_get {L : List (List Nat)} {k : Nat} (hk : k < L.length) : (cL L)[k]? = some (.lst ((L.getD k []).map dN)) := by
  simp only [cL]; rw [List.getElem?_map, getD_get hk]; rfl
theorem cL_set (L : List (List Nat)) (k : Nat) (l : List Nat) : cL (L.set k l) = (cL L).set k (.lst (l.map dN)) := by
  simp only [cL]
  rw [List.map_set]
theorem laid_ok {n : Nat} {st mk : List Nat} {h : CH} (hn : n ≤ 1000) (le : mk.length = st.length) (hs : ∀ i ∈ st, i < n) (sl : st.length ≤ 10000) (bl : ∀ c ∈ h, c.low h.length = true) {v : D} (ev : seqF v = some (st.map dN)) :
    f__law_laid [dN n, v, .lst (mk.map dN)] h = .ok (.tup ((laidL st mk (List.replicate n [])).map tN)) h := by
  have zl : (zipD (st.map dN) (mk.map dN)).length = st.length := by rw [zipD_length, List.length_map, List.length_map, le, Nat.min_self]
  obtain ⟨s', h', z, a, b, ez, eh⟩ : ∃ s' h', lp__law_laid_0 [some (dN n), some v, some (.lst (mk.map dN)), some (celR h n), none, none, none] (h ++ cL (List.replicate n [])) = .nx s' h' ∧
      ∃ a b, s' = [some (dN n), some v, some (.lst (mk.map dN)), some (celR h n), a, b, none] ∧ h' = h ++ cL (laidL (st.take (zipD (st.map dN) (mk.map dN)).length) (mk.take (zipD (st.map dN) (mk.map dN)).length) (List.replicate n [])) :=
    sFor_all (h1 := h ++ cL (List.replicate n [])) (x := .zip (.fix (st.map dN)) (.fix (mk.map dN))) (l := zipD (st.map dN) (mk.map dN)) (fun i s h' => ∃ a b, s = [some (dN n), some v, some (.lst (mk.map dN)), some (celR h n), a, b, none] ∧ h' = h ++ cL (laidL (st.take i) (mk.take i) (List.replicate n [])))
      (by
        have s2 : ∀ H : CH, srcOf H (.lst (mk.map dN)) = some (.fix (mk.map dN)) := fun H => rfl
        simp only [iZip', seqF_src ev, s2, startD, List.map_cons, List.map_nil, List.length_cons, List.length_nil, List.replicate_succ, List.replicate_zero, List.cons_append, List.nil_append, List.append_nil, sSeq, sNext, sAsg, sExpr, sRet, sRetN, sIf, sPar, sAug, sFor, sNo, sSetF, RE.bind, RE.bindA, RA.bindA, RA.bind, RE.bindS, RS.bind, lift, mVar, mC, mBin, mUn, mCB, mCons, mNil, mTup, mLst, mLstC, mChain, mAnd, mOr, mNot, mIf, mTru, mCall, mFld, ar, gN, gNils, gConss, gT, List.getElem?_cons_zero, List.getElem?_cons_succ, List.set_cons_zero, List.set_cons_succ, fEqD_int, fNeD_int, fAdd_int, fSub_int, fLt_int, fLe_int, fGt_int, fGe_int, Nat.reduceSub, RSrc.bindS, RSrc.bind, RE.src, RA.src, iSeq, iEnum', Src.items, Nat.reduceAdd, reduceIte]) ⟨none, none, rfl, by simp [laidL]⟩ (fun i s h' _ => rfl) (fun i d s h' ⟨a, b, es, eh⟩ ed => by
      subst es eh
      obtain ⟨p, q, e1, e2, rfl⟩ := zipD_get ed
      rw [List.getElem?_map] at e1 e2
      obtain ⟨k, ek, rfl⟩ := Option.map_eq_some_iff.mp e1
      obtain ⟨x, ex, rfl⟩ := Option.map_eq_some_iff.mp e2
      have hk := hs k (List.mem_of_getElem? ek)
      have et := laidL_take st mk (List.replicate n []) i k x ek ex
      have le0 : ∀ lg ∈ laidL (st.take i) (mk.take i) (List.replicate n []), lg.length ≤ 10000 := by
        intro lg mlg
        have := laidL_each (st.take i) (mk.take i) (List.replicate n []) 0 (fun x mx => by
          obtain ⟨_, rfl⟩ := List.mem_replicate.mp mx
          simp) lg mlg
        have q2 : (st.take i).length ≤ st.length := by rw [List.length_take]; omega
        omega
      have ll : (laidL (st.take i) (mk.take i) (List.replicate n [])).length = n := by rw [laidL_length]; simp
      rw [et]
      generalize laidL (st.take i) (mk.take i) (List.replicate n []) = L at le0 ll
      have gc := cL_get (L := L) (k := k) (by omega)
      have ix : fIx (h ++ cL L) (celR h n) (dN k) = some (.cell (h.length + k)) := fIx_lst (by rw [List.getElem?_map, List.getElem?_range hk]; rfl)
      have sz : ((L.getD k []).map dN).length < sizeLine := by
        rw [List.length_map]
        have := le0 _ (List.mem_of_getElem? (getD_get (d := []) (by omega : k < L.length)))
        have := sz_of (n := 10001) (m := 10001) (Nat.le_refl _)
        omega
      refine ⟨_, [some (dN n), some v, some (.lst (mk.map dN)), some (celR h n), some (dN k), some (dN x), none], h ++ cL (L.set k (L.getD k [] ++ [x])), rfl, .inl ?_, some (dN k), some (dN x), rfl, rfl⟩
      have ec : cL (L.set k (L.getD k [] ++ [x])) = (cL L).set k (.lst ((L.getD k []).map dN ++ [dN x])) := by
        rw [cL_set, List.map_append]
        rfl
      simp only [mApp, ix, isLst_off gc, appAt_off gc sz, ec, startD, List.map_cons, List.map_nil, List.length_cons, List.length_nil, List.replicate_succ, List.replicate_zero, List.cons_append, List.nil_append, List.append_nil, sSeq, sNext, sAsg, sExpr, sRet, sRetN, sIf, sPar, sAug, sFor, sNo, sSetF, RE.bind, RE.bindA, RA.bindA, RA.bind, RE.bindS, RS.bind, lift, mVar, mC, mBin, mUn, mCB, mCons, mNil, mTup, mLst, mLstC, mChain, mAnd, mOr, mNot, mIf, mTru, mCall, mFld, ar, gN, gNils, gConss, gT, List.getElem?_cons_zero, List.getElem?_cons_succ, List.set_cons_zero, List.set_cons_succ, fEqD_int, fNeD_int, fAdd_int, fSub_int, fLt_int, fLe_int, fGt_int, fGe_int, Nat.reduceSub, RSrc.bindS, RSrc.bind, RE.src, RA.src, iSeq, iEnum', Src.items, Nat.reduceAdd, reduceIte])
  rw [zl, List.take_length, ← le, List.take_length] at eh
  subst ez eh
  have ll : (laidL st mk (List.replicate n [])).length = n := by rw [laidL_length]; simp
  have lc0 := laid_cells n hn h (some v) (some (.lst (mk.map dN))) none none none none
  generalize hL : laidL st mk (List.replicate n []) = L at ll z
  have lc1 : lc__law_laid_1 [some (dN n), some v, some (.lst (mk.map dN)), some (celR h n), a, b, none] (h ++ cL L) = .ok (.lst ((List.range n).map fun i => tN (L.getD i []))) (h ++ cL L) :=
    mLc_all (x := .fix ((List.range n).map fun i => .cell (h.length + i))) (fun i => .cell (h.length + i)) (fun i => tN (L.getD i [])) (by simp only [srcOf, startD, List.map_cons, List.map_nil, List.length_cons, List.length_nil, List.replicate_succ, List.replicate_zero, List.cons_append, List.nil_append, List.append_nil, sSeq, sNext, sAsg, sExpr, sRet, sRetN, sIf, sPar, sAug, sFor, sNo, sSetF, RE.bind, RE.bindA, RA.bindA, RA.bind, RE.bindS, RS.bind, lift, mVar, mC, mBin, mUn, mCB, mCons, mNil, mTup, mLst, mLstC, mChain, mAnd, mOr, mNot, mIf, mTru, mCall, mFld, ar, gN, gNils, gConss, gT, List.getElem?_cons_zero, List.getElem?_cons_succ, List.set_cons_zero, List.set_cons_succ, fEqD_int, fNeD_int, fAdd_int, fSub_int, fLt_int, fLe_int, fGt_int, fGe_int, Nat.reduceSub, RSrc.bindS, RSrc.bind, RE.src, RA.src, iSeq, iEnum', Src.items, Nat.reduceAdd, reduceIte]) rfl (by rw [List.length_range]; exact sz_of hn) fun k mk => by
      have hk : k < n := List.mem_range.mp mk
      have gc := cL_get (L := L) (k := k) (by omega)
      refine ⟨_, rfl, ?_⟩
      simp only [wipeS, cTuple, lsOf, lstOf_off gc, Option.map_some, startD, List.map_cons, List.map_nil, List.length_cons, List.length_nil, List.replicate_succ, List.replicate_zero, List.cons_append, List.nil_append, List.append_nil, sSeq, sNext, sAsg, sExpr, sRet, sRetN, sIf, sPar, sAug, sFor, sNo, sSetF, RE.bind, RE.bindA, RA.bindA, RA.bind, RE.bindS, RS.bind, lift, mVar, mC, mBin, mUn, mCB, mCons, mNil, mTup, mLst, mLstC, mChain, mAnd, mOr, mNot, mIf, mTru, mCall, mFld, ar, gN, gNils, gConss, gT, List.getElem?_cons_zero, List.getElem?_cons_succ, List.set_cons_zero, List.set_cons_succ, fEqD_int, fNeD_int, fAdd_int, fSub_int, fLt_int, fLe_int, fGt_int, fGe_int, Nat.reduceSub, RSrc.bindS, RSrc.bind, RE.src, RA.src, iSeq, iEnum', Src.items, Nat.reduceAdd, reduceIte]
  rw [range_getD tN [] L n ll] at lc1
  refine cut_rt (j := cL L) (hh := h) ?_ rfl (low_logs L) bl
  have sd : startD 7 [dN n, v, .lst (mk.map dN)] = [some (dN n), some v, some (.lst (mk.map dN)), none, none, none, none] := rfl
  rw [sd]
  unfold m__law_laid
  rw [seq_asg lc0 rfl]
  simp only [List.set_cons_zero, List.set_cons_succ]
  rw [seq_nx z]
  refine seq_ret (cb_one lc1 rfl)
end K16

set_option Elab.async false
set_option linter.all false
set_option maxRecDepth 100000
set_option exponentiation.threshold 10000
namespace K16
open PySem PySem.Spec PyProof.Rows L2 Py
def f__law_moves : MF := cutF 9 (m__law_moves f__law_stretches)
theorem filt_range {n m p : Nat} (m0 : 0 < m) (h : p / m < n) : (List.range n).filter (fun k => decide (k * m ≤ p)) = List.range (p / m + 1) := by
  have e : n = (p / m + 1) + (n - (p / m + 1)) := by omega
  conv => lhs; rw [e, List.range_add]
  rw [List.filter_append, List.filter_eq_self.mpr, List.filter_eq_nil_iff.mpr, List.append_nil]
  · intro k mk
    obtain ⟨j, _, rfl⟩ := List.mem_map.mp mk
    simp only [decide_eq_true_eq]
    rw [← Nat.le_div_iff_mul_le m0]
    omega
  · intro k mk
    have := List.mem_range.mp mk
    simp only [decide_eq_true_eq]
    rw [← Nat.le_div_iff_mul_le m0]
    omega
theorem b20k : 20000 < 2 ^ 4000 := by
  have : 20000 < 2 ^ 64 := by decide
  exact Nat.lt_trans this (Nat.pow_lt_pow_right (by decide) (by decide))
abbrev rowC (ms : List Nat) (N p : Nat) : Cell := .lst ((List.range ms.length).map fun j => cellD ms N p j)
def movC (ms : List Nat) (N b i : Nat) : CH := .lst ((List.range i).map fun p => .cell (b + (1 + p))) :: (List.range i).map fun p => rowC ms N p
theorem movC_len (ms : List Nat) (N b i : Nat) : (movC ms N b i).length = 1 + i := by simp [movC]; omega
theorem neg1 (s : SLS) (h : CH) : mUn fNeg (mC (.int 1)) s h = .ok (.int (-1)) h := by simp only [fNeg_int, startD, List.map_cons, List.map_nil, List.length_cons, List.length_nil, List.replicate_succ, List.replicate_zero, List.cons_append, List.nil_append, List.append_nil, sSeq, sNext, sAsg, sExpr, sRet, sRetN, sIf, sPar, sAug, sFor, sNo, sSetF, RE.bind, RE.bindA, RA.bindA, RA.bind, RE.bindS, RS.bind, lift, mVar, mC, mBin, mUn, mCB, mCons, mNil, mTup, mLst, mLstC, mChain, mAnd, mOr, mNot, mIf, mTru, mCall, mFld, ar, gN, gNils, gConss, gT, List.getElem?_cons_zero, List.getElem?_cons_succ, List.set_cons_zero, List.set_cons_succ, fEqD_int, fNeD_int, fAdd_int, fSub_int, fLt_int, fLe_int, fGt_int, fGe_int, Nat.reduceSub, RSrc.bindS, RSrc.bind, RE.src, RA.src, iSeq, iEnum', Src.items, Nat.reduceAdd, reduceIte]
/-- the row of a place, to the hand j -/
theorem moves_at {ms : List Nat} {N i j m : Nat} (em : ms[j]? = some m) (cm : okMs ms = true) (nb : N < 10000) (hi : i < N) (h : CH) (a b c : Option D) :
    lc__law_moves_0 f__law_stretches [some (tN ms), some (dN N), a, some (dN i), b, some (dN j), c, some (dN (fst_ ms N j)), some (dN (fst_ ms N j + (N + m - 1) / m))] h = .ok (.lst ((List.range (i / m + 1)).map dN)) h := by
  have hb := okMs_mem cm m (List.mem_of_getElem? em)
  have m0 : 0 < m := by omega
  have z := mLc_filt (mi := iRange1 (mCons (mBin fSub (mVar 8) (mVar 7)) mNil)) (gm := gN 6) (mt := mBin fLe (mBin fMul (mVar 6) (mBin fIx (mVar 0) (mVar 5))) (mVar 3)) (me := mVar 6) (vs := [6])
    (s := [some (tN ms), some (dN N), a, some (dN i), b, some (dN j), c, some (dN (fst_ ms N j)), some (dN (fst_ ms N j + (N + m - 1) / m))]) (h := h) (h1 := h) (xs := List.range ((N + m - 1) / m)) (fun i => dN i) (fun i => dN i) (fun k => decide (k * m ≤ i))
    (by
      have rr := rangeD0 ((N + m - 1) / m)
      have sub : ((fst_ ms N j + (N + m - 1) / m : Nat) : Int) - (fst_ ms N j : Int) = (((N + m - 1) / m : Nat) : Int) := by omega
      have q := iR1 (m := mCons (mBin fSub (mVar 8) (mVar 7)) mNil) (s := [some (tN ms), some (dN N), a, some (dN i), b, some (dN j), c, some (dN (fst_ ms N j)), some (dN (fst_ ms N j + (N + m - 1) / m))]) (h := h) (h1 := h) (n := (N + m - 1) / m) (by simp only [sub, startD, List.map_cons, List.map_nil, List.length_cons, List.length_nil, List.replicate_succ, List.replicate_zero, List.cons_append, List.nil_append, List.append_nil, sSeq, sNext, sAsg, sExpr, sRet, sRetN, sIf, sPar, sAug, sFor, sNo, sSetF, RE.bind, RE.bindA, RA.bindA, RA.bind, RE.bindS, RS.bind, lift, mVar, mC, mBin, mUn, mCB, mCons, mNil, mTup, mLst, mLstC, mChain, mAnd, mOr, mNot, mIf, mTru, mCall, mFld, ar, gN, gNils, gConss, gT, List.getElem?_cons_zero, List.getElem?_cons_succ, List.set_cons_zero, List.set_cons_succ, fEqD_int, fNeD_int, fAdd_int, fSub_int, fLt_int, fLe_int, fGt_int, fGe_int, Nat.reduceSub, RSrc.bindS, RSrc.bind, RE.src, RA.src, iSeq, iEnum', Src.items, Nat.reduceAdd, reduceIte]) (by
        have : (N + m - 1) / m ≤ N + m - 1 := Nat.div_le_self _ _
        omega)
      rw [rr] at q
      exact q) rfl (by rw [List.length_range]; exact sz_of (n := (N + m - 1) / m) (m := 100000) (Nat.le_trans (Nat.div_le_self (N + m - 1) m) (by omega))) fun k mk => by
      have hk := List.mem_range.mp mk
      have hk2 : k ≤ 20000 := by
        have : (N + m - 1) / m ≤ N + m - 1 := Nat.div_le_self _ _
        omega
      have ix : fIx h (tN ms) (dN j) = some (dN m) := fIx_tup (by rw [List.getElem?_map, em]; rfl)
      refine ⟨_, rfl, ?_, fun _ => ?_⟩
      · simp only [wipeS, ix, fMul_sm h (i := (k : Int)) (j := (m : Int)) (bigs hk2 b20k) (bigs hb.2 b60), startD, List.map_cons, List.map_nil, List.length_cons, List.length_nil, List.replicate_succ, List.replicate_zero, List.cons_append, List.nil_append, List.append_nil, sSeq, sNext, sAsg, sExpr, sRet, sRetN, sIf, sPar, sAug, sFor, sNo, sSetF, RE.bind, RE.bindA, RA.bindA, RA.bind, RE.bindS, RS.bind, lift, mVar, mC, mBin, mUn, mCB, mCons, mNil, mTup, mLst, mLstC, mChain, mAnd, mOr, mNot, mIf, mTru, mCall, mFld, ar, gN, gNils, gConss, gT, List.getElem?_cons_zero, List.getElem?_cons_succ, List.set_cons_zero, List.set_cons_succ, fEqD_int, fNeD_int, fAdd_int, fSub_int, fLt_int, fLe_int, fGt_int, fGe_int, Nat.reduceSub, RSrc.bindS, RSrc.bind, RE.src, RA.src, iSeq, iEnum', Src.items, Nat.reduceAdd, reduceIte]
        rw [← Int.natCast_mul, int_le_iff]
      · simp only [wipeS, startD, List.map_cons, List.map_nil, List.length_cons, List.length_nil, List.replicate_succ, List.replicate_zero, List.cons_append, List.nil_append, List.append_nil, sSeq, sNext, sAsg, sExpr, sRet, sRetN, sIf, sPar, sAug, sFor, sNo, sSetF, RE.bind, RE.bindA, RA.bindA, RA.bind, RE.bindS, RS.bind, lift, mVar, mC, mBin, mUn, mCB, mCons, mNil, mTup, mLst, mLstC, mChain, mAnd, mOr, mNot, mIf, mTru, mCall, mFld, ar, gN, gNils, gConss, gT, List.getElem?_cons_zero, List.getElem?_cons_succ, List.set_cons_zero, List.set_cons_succ, fEqD_int, fNeD_int, fAdd_int, fSub_int, fLt_int, fLe_int, fGt_int, fGe_int, Nat.reduceSub, RSrc.bindS, RSrc.bind, RE.src, RA.src, iSeq, iEnum', Src.items, Nat.reduceAdd, reduceIte]
  rw [filt_range m0 (div_lt_ceil m0 hi)] at z
  exact z
theorem okS_of {ms : List Nat} (c : okMs ms = true) : okS ms := ⟨(okMs_len c).2, okMs_mem c⟩
/-- a row -/
theorem moves_row {ms : List Nat} {N i : Nat} (cm : okMs ms = true) (nb : N < 10000) (hi : i < N) (h : CH) (a b c d : Option D) :
    ∃ a' b' c' d', lp__law_moves_0 f__law_stretches [some (tN ms), some (dN N), some (.cell (h.length + 0)), some (dN i), some (.cell (h.length + (1 + i))), a, b, c, d] (h ++ (movC ms N h.length i ++ [.lst []])) =
      .nx [some (tN ms), some (dN N), some (.cell (h.length + 0)), some (dN i), some (.cell (h.length + (1 + i))), a', b', c', d'] (h ++ (movC ms N h.length i ++ [rowC ms N i])) := by
  have hn := okMs_len cm
  have c3 : okS ms ∧ 0 ≤ (N : Int) := ⟨okS_of cm, Int.natCast_nonneg N⟩
  have pl : (pairs 0 ((lay (szs ms N) 0).map dP)).length = ms.length := by rw [pairs_length, List.length_map, lay_length, szs_length]
  have gi : ∀ r : Cell, (movC ms N h.length i ++ [r])[1 + i]? = some r := fun r => by
    rw [List.getElem?_append_right (by rw [movC_len]; exact Nat.le_refl _), movC_len]
    simp
  have si : ∀ r r' : Cell, (movC ms N h.length i ++ [r]).set (1 + i) r' = movC ms N h.length i ++ [r'] := fun r r' => by
    rw [List.set_append_right _ _ (by rw [movC_len]; exact Nat.le_refl _), movC_len]
    simp
  obtain ⟨s', h', z, a', b', c', d', ez, eh⟩ : ∃ s' h', lp__law_moves_0 f__law_stretches [some (tN ms), some (dN N), some (.cell (h.length + 0)), some (dN i), some (.cell (h.length + (1 + i))), a, b, c, d] (h ++ (movC ms N h.length i ++ [.lst ((List.range 0).map fun j => cellD ms N i j)])) = .nx s' h' ∧
      ∃ a' b' c' d', s' = [some (tN ms), some (dN N), some (.cell (h.length + 0)), some (dN i), some (.cell (h.length + (1 + i))), a', b', c', d'] ∧ h' = h ++ (movC ms N h.length i ++ [.lst ((List.range (pairs 0 ((lay (szs ms N) 0).map dP)).length).map fun j => cellD ms N i j)]) :=
    sFor_all (x := .enum (.fix ((lay (szs ms N) 0).map dP))) (l := pairs 0 ((lay (szs ms N) 0).map dP)) (fun k s h' => ∃ a' b' c' d', s = [some (tN ms), some (dN N), some (.cell (h.length + 0)), some (dN i), some (.cell (h.length + (1 + i))), a', b', c', d'] ∧ h' = h ++ (movC ms N h.length i ++ [.lst ((List.range k).map fun j => cellD ms N i j)]))
      (by simp only [f__law_stretches, natsOf_map, if_pos c3, Int.toNat_natCast, srcOf, Option.map_some, startD, List.map_cons, List.map_nil, List.length_cons, List.length_nil, List.replicate_succ, List.replicate_zero, List.cons_append, List.nil_append, List.append_nil, sSeq, sNext, sAsg, sExpr, sRet, sRetN, sIf, sPar, sAug, sFor, sNo, sSetF, RE.bind, RE.bindA, RA.bindA, RA.bind, RE.bindS, RS.bind, lift, mVar, mC, mBin, mUn, mCB, mCons, mNil, mTup, mLst, mLstC, mChain, mAnd, mOr, mNot, mIf, mTru, mCall, mFld, ar, gN, gNils, gConss, gT, List.getElem?_cons_zero, List.getElem?_cons_succ, List.set_cons_zero, List.set_cons_succ, fEqD_int, fNeD_int, fAdd_int, fSub_int, fLt_int, fLe_int, fGt_int, fGe_int, Nat.reduceSub, RSrc.bindS, RSrc.bind, RE.src, RA.src, iSeq, iEnum', Src.items, Nat.reduceAdd, reduceIte]) ⟨a, b, c, d, rfl, rfl⟩ (fun i s h' _ => rfl) (fun k dd s h' ⟨a', b', c', d', es, eh⟩ ed => by
      subst es eh
      have kl : k < ms.length := by
        have := (List.getElem?_eq_some_iff.mp ed).1
        omega
      obtain ⟨e, ee, rfl⟩ := pairs_get ed
      have em : ms[k]? = some ms[k] := List.getElem?_eq_getElem kl
      have gd : ms.getD k 1 = ms[k] := by rw [List.getD_eq_getElem?_getD, em]; rfl
      have hb := okMs_mem cm _ (List.getElem_mem kl)
      rw [st_get em] at ee
      cases ee
      rw [Nat.zero_add]
      generalize ms[k] = m at em gd hb ⊢
      have m0 : 0 < m := by omega
      have lc := moves_at (h := h ++ (movC ms N h.length i ++ [.lst ((List.range k).map fun j => cellD ms N i j)])) em cm nb hi (some (.cell (h.length + 0))) (some (.cell (h.length + (1 + i)))) b'
      have ixm : ∀ h : CH, fIx h (tN ms) (dN k) = some (dN m) := fun h => fIx_tup (by rw [List.getElem?_map, em]; rfl)
      have ixl : ∀ h : CH, fIx h (.lst ((List.range (i / m + 1)).map dN)) (.int (-1)) = some (dN (i / m)) := fun h => by
        simp only [fIx, seqOf, lstOf]
        refine atI_last ?_
        rw [List.length_map, List.length_range, List.getElem?_map, Nat.add_sub_cancel, List.getElem?_range (by omega)]
        rfl
      have qm : ((i / m : Nat) : Int) * (m : Int) = ((i / m * m : Nat) : Int) := by rw [Int.natCast_mul]
      have md : (i : Int) - ((i / m * m : Nat) : Int) = ((i % m : Nat) : Int) := by
        have := Nat.div_add_mod i m
        rw [Nat.mul_comm] at this
        omega
      have ad : (fst_ ms N k : Int) + ((i / m : Nat) : Int) = ((nxt ms N i k : Nat) : Int) := by
        unfold nxt
        rw [gd]
        omega
      have bd : (((i / m : Nat)) : Int).natAbs < 2 ^ 8000 := bigs (m := 20000) (Nat.le_trans (Nat.div_le_self i m) (by omega)) b20k
      have sz : ((List.range k).map fun j => cellD ms N i j).length < sizeLine := by
        rw [List.length_map, List.length_range]
        have := sz_of (n := 1000) (m := 1000) (Nat.le_refl _)
        omega
      have es : ((List.range k).map fun j => cellD ms N i j) ++ [.tup [dN (nxt ms N i k), dN (i % m)]] = (List.range (k + 1)).map fun j => cellD ms N i j := by
        rw [List.range_succ, List.map_append, ← gd]
        rfl
      refine ⟨_, [some (tN ms), some (dN N), some (.cell (h.length + 0)), some (dN i), some (.cell (h.length + (1 + i))), some (dN k), some (dN (i / m)), some (dN (fst_ ms N k)), some (dN (fst_ ms N k + (N + m - 1) / m))], h ++ (movC ms N h.length i ++ [.lst ((List.range (k + 1)).map fun j => cellD ms N i j)]), rfl, .inl ?_, some (dN k), some (dN (i / m)), some (dN (fst_ ms N k)), some (dN (fst_ ms N k + (N + m - 1) / m)), rfl, rfl⟩
      have il := isLst_off (h := h) (gi (.lst ((List.range k).map fun j => cellD ms N i j)))
      have ap := appAt_off (h := h) (d := .tup [dN (nxt ms N i k), dN (i % m)]) (gi (.lst ((List.range k).map fun j => cellD ms N i j))) sz
      rw [si, es] at ap
      have st1 : mBin fIx (lc__law_moves_0 f__law_stretches) (mUn fNeg (mC (.int 1))) _ _ = _ := bin_ok lc (neg1 _ _) (ixl _)
      refine (seq_asg st1 (s1 := [some (tN ms), some (dN N), some (.cell (h.length + 0)), some (dN i), some (.cell (h.length + (1 + i))), some (dN k), some (dN (i / m)), some (dN (fst_ ms N k)), some (dN (fst_ ms N k + (N + m - 1) / m))]) rfl).trans ?_
      simp only [ixm, ad, fMul_sm _ (i := ((i / m : Nat) : Int)) (j := (m : Int)) bd (bigs hb.2 b60), qm, md, mApp, il, ap, if_pos (two_ok (n := 2) (by decide)), startD, List.map_cons, List.map_nil, List.length_cons, List.length_nil, List.replicate_succ, List.replicate_zero, List.cons_append, List.nil_append, List.append_nil, sSeq, sNext, sAsg, sExpr, sRet, sRetN, sIf, sPar, sAug, sFor, sNo, sSetF, RE.bind, RE.bindA, RA.bindA, RA.bind, RE.bindS, RS.bind, lift, mVar, mC, mBin, mUn, mCB, mCons, mNil, mTup, mLst, mLstC, mChain, mAnd, mOr, mNot, mIf, mTru, mCall, mFld, ar, gN, gNils, gConss, gT, List.getElem?_cons_zero, List.getElem?_cons_succ, List.set_cons_zero, List.set_cons_succ, fEqD_int, fNeD_int, fAdd_int, fSub_int, fLt_int, fLe_int, fGt_int, fGe_int, Nat.reduceSub, RSrc.bindS, RSrc.bind, RE.src, RA.src, iSeq, iEnum', Src.items, Nat.reduceAdd, reduceIte])
  rw [pl] at eh
  subst ez eh
  exact ⟨a', b', c', d', z⟩
theorem moves_ok {ms : List Nat} {N : Nat} {h : CH} (cm : okMs ms = true) (nb : N < 10000) (bl : ∀ c ∈ h, c.low h.length = true) : f__law_moves [tN ms, dN N] h = .ok (movD ms N) h := by
  have two0 := two_ok (n := 0) (by decide)
  obtain ⟨s', h', z, a', b', c', d', e', g', ez, eh⟩ : ∃ s' h', lp__law_moves_1 f__law_stretches [some (tN ms), some (dN N), some (.cell (h.length + 0)), none, none, none, none, none, none] (h ++ movC ms N h.length 0) = .nx s' h' ∧
      ∃ a b c d e g, s' = [some (tN ms), some (dN N), some (.cell (h.length + 0)), a, b, c, d, e, g] ∧ h' = h ++ movC ms N h.length (rangeD 0 N).length :=
    sFor_all (x := .fix (rangeD 0 N)) (l := rangeD 0 N) (fun i s h' => ∃ a b c d e g, s = [some (tN ms), some (dN N), some (.cell (h.length + 0)), a, b, c, d, e, g] ∧ h' = h ++ movC ms N h.length i)
      (iR1 (by simp only [startD, List.map_cons, List.map_nil, List.length_cons, List.length_nil, List.replicate_succ, List.replicate_zero, List.cons_append, List.nil_append, List.append_nil, sSeq, sNext, sAsg, sExpr, sRet, sRetN, sIf, sPar, sAug, sFor, sNo, sSetF, RE.bind, RE.bindA, RA.bindA, RA.bind, RE.bindS, RS.bind, lift, mVar, mC, mBin, mUn, mCB, mCons, mNil, mTup, mLst, mLstC, mChain, mAnd, mOr, mNot, mIf, mTru, mCall, mFld, ar, gN, gNils, gConss, gT, List.getElem?_cons_zero, List.getElem?_cons_succ, List.set_cons_zero, List.set_cons_succ, fEqD_int, fNeD_int, fAdd_int, fSub_int, fLt_int, fLe_int, fGt_int, fGe_int, Nat.reduceSub, RSrc.bindS, RSrc.bind, RE.src, RA.src, iSeq, iEnum', Src.items, Nat.reduceAdd, reduceIte]) (by omega)) ⟨none, none, none, none, none, none, rfl, rfl⟩ (fun i s h' _ => rfl) (fun i d s h' ⟨a, b, c, d', e, g, es, eh⟩ ed => by
      subst es eh
      obtain ⟨hi, rfl⟩ := rangeD_get ed
      rw [Int.zero_add]
      have al : (h ++ movC ms N h.length i).length = h.length + (1 + i) := by rw [List.length_append, movC_len]
      have ac : h ++ movC ms N h.length i ++ [.lst []] = h ++ (movC ms N h.length i ++ [.lst []]) := List.append_assoc _ _ _
      obtain ⟨a2, b2, c2, d2, w⟩ := moves_row (h := h) cm nb hi c d' e g
      have g0 : ∀ r : Cell, (movC ms N h.length i ++ [r])[0]? = some (.lst ((List.range i).map fun p => .cell (h.length + (1 + p)))) := fun r => rfl
      have il := isLst_off (h := h) (g0 (rowC ms N i))
      have ap := appAt_off (h := h) (d := .cell (h.length + (1 + i))) (g0 (rowC ms N i)) (by rw [List.length_map, List.length_range, sizeLine_eq]; omega)
      have e3 : (movC ms N h.length i ++ [rowC ms N i]).set 0 (.lst (((List.range i).map fun p => .cell (h.length + (1 + p))) ++ [.cell (h.length + (1 + i))])) = movC ms N h.length (i + 1) := by
        unfold movC
        rw [List.range_succ, List.map_append, List.map_append]
        rfl
      rw [e3] at ap
      refine ⟨_, [some (tN ms), some (dN N), some (.cell (h.length + 0)), some (dN i), some (.cell (h.length + (1 + i))), a2, b2, c2, d2], h ++ movC ms N h.length (i + 1), rfl, .inl ?_, some (dN i), some (.cell (h.length + (1 + i))), a2, b2, c2, d2, rfl, rfl⟩
      refine (seq_asg (m := mLstC mNil) (d := .cell (h.length + (1 + i))) (h1 := h ++ (movC ms N h.length i ++ [.lst []])) (s1 := [some (tN ms), some (dN N), some (.cell (h.length + 0)), some (dN i), some (.cell (h.length + (1 + i))), c, d', e, g]) (by simp only [if_pos two0, al, ac, startD, List.map_cons, List.map_nil, List.length_cons, List.length_nil, List.replicate_succ, List.replicate_zero, List.cons_append, List.nil_append, List.append_nil, sSeq, sNext, sAsg, sExpr, sRet, sRetN, sIf, sPar, sAug, sFor, sNo, sSetF, RE.bind, RE.bindA, RA.bindA, RA.bind, RE.bindS, RS.bind, lift, mVar, mC, mBin, mUn, mCB, mCons, mNil, mTup, mLst, mLstC, mChain, mAnd, mOr, mNot, mIf, mTru, mCall, mFld, ar, gN, gNils, gConss, gT, List.getElem?_cons_zero, List.getElem?_cons_succ, List.set_cons_zero, List.set_cons_succ, fEqD_int, fNeD_int, fAdd_int, fSub_int, fLt_int, fLe_int, fGt_int, fGe_int, Nat.reduceSub, RSrc.bindS, RSrc.bind, RE.src, RA.src, iSeq, iEnum', Src.items, Nat.reduceAdd, reduceIte]) rfl).trans ?_
      rw [seq_nx w]
      simp only [mApp, il, ap, startD, List.map_cons, List.map_nil, List.length_cons, List.length_nil, List.replicate_succ, List.replicate_zero, List.cons_append, List.nil_append, List.append_nil, sSeq, sNext, sAsg, sExpr, sRet, sRetN, sIf, sPar, sAug, sFor, sNo, sSetF, RE.bind, RE.bindA, RA.bindA, RA.bind, RE.bindS, RS.bind, lift, mVar, mC, mBin, mUn, mCB, mCons, mNil, mTup, mLst, mLstC, mChain, mAnd, mOr, mNot, mIf, mTru, mCall, mFld, ar, gN, gNils, gConss, gT, List.getElem?_cons_zero, List.getElem?_cons_succ, List.set_cons_zero, List.set_cons_succ, fEqD_int, fNeD_int, fAdd_int, fSub_int, fLt_int, fLe_int, fGt_int, fGe_int, Nat.reduceSub, RSrc.bindS, RSrc.bind, RE.src, RA.src, iSeq, iEnum', Src.items, Nat.reduceAdd, reduceIte])
  rw [range_len1] at eh
  subst ez eh
  have z2 : lp__law_moves_1 f__law_stretches [some (tN ms), some (dN N), some (.cell h.length), none, none, none, none, none, none] (h ++ [.lst []]) = _ := z
  refine cutF_rt (d := .cell (h.length + 0)) (hh := h) (j := movC ms N h.length N) ?_ rfl ?_ bl
  · have sd : startD 9 [tN ms, dN N] = [some (tN ms), some (dN N), none, none, none, none, none, none, none] := rfl
    rw [sd]
    unfold m__law_moves
    refine (seq_asg (m := mLstC mNil) (d := .cell h.length) (h1 := h ++ [.lst []]) (s1 := [some (tN ms), some (dN N), some (.cell h.length), none, none, none, none, none, none]) (by simp only [if_pos two0, startD, List.map_cons, List.map_nil, List.length_cons, List.length_nil, List.replicate_succ, List.replicate_zero, List.cons_append, List.nil_append, List.append_nil, sSeq, sNext, sAsg, sExpr, sRet, sRetN, sIf, sPar, sAug, sFor, sNo, sSetF, RE.bind, RE.bindA, RA.bindA, RA.bind, RE.bindS, RS.bind, lift, mVar, mC, mBin, mUn, mCB, mCons, mNil, mTup, mLst, mLstC, mChain, mAnd, mOr, mNot, mIf, mTru, mCall, mFld, ar, gN, gNils, gConss, gT, List.getElem?_cons_zero, List.getElem?_cons_succ, List.set_cons_zero, List.set_cons_succ, fEqD_int, fNeD_int, fAdd_int, fSub_int, fLt_int, fLe_int, fGt_int, fGe_int, Nat.reduceSub, RSrc.bindS, RSrc.bind, RE.src, RA.src, iSeq, iEnum', Src.items, Nat.reduceAdd, reduceIte]) rfl).trans ?_
    rw [seq_nx z2]
    exact seq_ret rfl
  · have gr : ∀ p, p < N → (h ++ movC ms N h.length N)[h.length + (1 + p)]? = some (rowC ms N p) := fun p hp => at_off (by
      unfold movC
      rw [Nat.add_comm, List.getElem?_cons_succ, List.getElem?_map, List.getElem?_range hp]
      rfl)
    refine frD_cell (by omega) (at_off (i := 0) rfl) (mapOpt_map _ _ _ fun p mp => ?_)
    refine frD_cell (by omega) (gr p (List.mem_range.mp mp)) (mapOpt_map (f := frD (h ++ movC ms N h.length N) h.length 7) (fun j => cellD ms N p j) (fun j => cellD ms N p j) _ fun j _ => rfl)
end K16

set_option Elab.async false
set_option linter.all false
set_option maxRecDepth 100000
namespace K16
open PySem PySem.Spec PyProof.Rows L2 Py
/-! ### plain: the law's step back is that of the way back -/
/-- (hand, place ahead) of the step that came here -/
def stepB (ms : List Nat) (N : Nat) (L : List (List Nat)) (p : Nat) : Option (Nat × Nat) := match findS (lay (szs ms N) 0) p with
  | none => none
  | some i => (match (L.getD i []).getLast? with
    | none => none
    | some x => (aheadN ms N p i (ms.getD i 1) x).map fun q => (i, q))
/-- what the law asks of a place and a hand -/
def wayC (ms : List Nat) (N : Nat) (L : List (List Nat)) (p a j : Nat) : Prop := nxt ms N a j = p ∧ (L.getD j []).getLast? = some (a % ms.getD j 1)
instance (ms : List Nat) (N : Nat) (L : List (List Nat)) (p a j : Nat) : Decidable (wayC ms N L p a j) := by unfold wayC; infer_instance
theorem step_of_way {ms : List Nat} {N : Nat} {L : List (List Nat)} {p a j : Nat} (all : ∀ x ∈ ms, 0 < x) (ha : a < N) (hj : j < ms.length) (w : wayC ms N L p a j) : stepB ms N L p = some (j, a) := by
  have e : ms[j]? = some ms[j] := List.getElem?_eq_getElem hj
  have gd : ms.getD j 1 = ms[j] := by rw [List.getD_eq_getElem?_getD, e]; rfl
  obtain ⟨w1, w2⟩ := w
  unfold stepB
  rw [← w1, find_nxt e (all _ (List.getElem_mem hj)) ha all]
  simp only [w2]
  rw [gd, ahead_nxt e ha]
  rfl
theorem way_of_step {ms : List Nat} {N : Nat} {L : List (List Nat)} {p i q : Nat} (mk : ∀ (i m : Nat), ms[i]? = some m → ∀ x ∈ L.getD i [], x < m) (s : stepB ms N L p = some (i, q)) : i < ms.length ∧ q < N ∧ wayC ms N L p q i ∧ findS (lay (szs ms N) 0) p = some i ∧ ∃ x, (L.getD i []).getLast? = some x ∧ aheadN ms N p i (ms.getD i 1) x = some q := by
  unfold stepB at s
  split at s
  · cases s
  · next i' hf =>
    split at s
    · cases s
    · next x hx =>
      simp only [Option.map_eq_some_iff] at s
      obtain ⟨q', h1, h2⟩ := s
      cases h2
      obtain ⟨hi, _, _⟩ := findS_some hf
      have e : ms[i]? = some ms[i] := List.getElem?_eq_getElem hi
      have gd : ms.getD i 1 = ms[i] := by rw [List.getD_eq_getElem?_getD, e]; rfl
      have mx : x ∈ L.getD i [] := List.mem_of_getLast? hx
      have lt := mk i _ e x mx
      rw [gd] at h1
      obtain ⟨n1, n2, n3⟩ := nxt_ahead e hf lt h1
      exact ⟨hi, n3, ⟨n1, by rw [gd, n2]; exact hx⟩, hf, x, hx, by rw [gd]; exact h1⟩
/-- the ways that are found up to the place a, the hand j -/
def wayAt (st : Option (Nat × Nat)) (a j : Nat) : List (Nat × Nat) := match st with
  | none => []
  | some (i, q) => if q < a ∨ (q = a ∧ i < j) then [(i, q)] else []
theorem wayAt_len (st : Option (Nat × Nat)) (a j : Nat) : (wayAt st a j).length ≤ 1 := by
  unfold wayAt
  split
  · simp
  · split <;> simp
theorem wayAt_hit {st : Option (Nat × Nat)} {a j : Nat} (e : st = some (j, a)) : wayAt st a j = [] ∧ wayAt st a (j + 1) = [(j, a)] := by
  subst e
  simp [wayAt]
theorem wayAt_miss {st : Option (Nat × Nat)} {a j : Nat} (e : st ≠ some (j, a)) : wayAt st a (j + 1) = wayAt st a j := by
  unfold wayAt
  split
  · rfl
  · next i q =>
    by_cases c : q < a ∨ (q = a ∧ i < j)
    · rw [if_pos c, if_pos (by omega)]
    · rw [if_neg c, if_neg (fun z => by
        have : ¬ (i = j ∧ q = a) := fun w => e (by rw [w.1, w.2])
        omega)]
theorem wayAt_row {st : Option (Nat × Nat)} {a n : Nat} (e : ∀ i q, st = some (i, q) → i < n) : wayAt st a n = wayAt st (a + 1) 0 := by
  unfold wayAt
  split
  · rfl
  · next i q =>
    have := e i q rfl
    by_cases c : q < a ∨ (q = a ∧ i < n)
    · rw [if_pos c, if_pos (by omega)]
    · rw [if_neg c, if_neg (by omega)]
theorem wayAt_0 (st : Option (Nat × Nat)) : wayAt st 0 0 = [] := by
  unfold wayAt
  split
  · rfl
  · rw [if_neg (by omega)]
theorem wayAt_end {st : Option (Nat × Nat)} {N : Nat} (e : ∀ i q, st = some (i, q) → q < N) : wayAt st N 0 = st.toList := by
  unfold wayAt
  split
  · rfl
  · next i q =>
    rw [if_pos (.inl (e i q rfl))]
    rfl
/-- what is left of the logs -/
def leftL (lgs : List (List Nat)) (cs : List Nat) : List (List Nat) := (lgs.zip cs).map fun x => x.1.take x.2
theorem leftL_get {lgs : List (List Nat)} {cs : List Nat} {i c : Nat} {lg : List Nat} (e1 : lgs[i]? = some lg) (e2 : cs[i]? = some c) : (leftL lgs cs)[i]? = some (lg.take c) := by
  have zz : (lgs.zip cs)[i]? = some (lg, c) := List.getElem?_zip_eq_some.mpr ⟨e1, e2⟩
  unfold leftL
  rw [List.getElem?_map, zz]
  rfl
theorem leftL_len {lgs : List (List Nat)} {cs : List Nat} (e : cs.length = lgs.length) : (leftL lgs cs).length = lgs.length := by
  unfold leftL
  rw [List.length_map, List.length_zip, e, Nat.min_self]
theorem leftL_all (lgs : List (List Nat)) : leftL lgs (lgs.map List.length) = lgs := by
  apply List.ext_getElem?
  intro i
  by_cases h : i < lgs.length
  · rw [leftL_get (List.getElem?_eq_getElem h) (by rw [List.getElem?_map, List.getElem?_eq_getElem h]; rfl), List.take_length, List.getElem?_eq_getElem h]
  · rw [List.getElem?_eq_none (by rw [leftL_len (by simp)]; omega), List.getElem?_eq_none (by omega)]
theorem leftL_set {lgs : List (List Nat)} {cs : List Nat} {i : Nat} (e : cs.length = lgs.length) (hi : i < lgs.length) (le : cs.getD i 0 ≤ (lgs.getD i []).length) : leftL lgs (cs.set i (cs.getD i 0 - 1)) = (leftL lgs cs).set i ((leftL lgs cs).getD i []).dropLast := by
  have g1 : lgs[i]? = some (lgs.getD i []) := getD_get hi
  have g2 : cs[i]? = some (cs.getD i 0) := getD_get (by omega)
  have gl := leftL_get g1 g2
  have gd : (leftL lgs cs).getD i [] = (lgs.getD i []).take (cs.getD i 0) := by rw [List.getD_eq_getElem?_getD (l := leftL lgs cs), gl]; rfl
  apply List.ext_getElem?
  intro j
  by_cases hj : i = j
  · subst hj
    rw [leftL_get g1 (List.getElem?_set_self (by omega)), List.getElem?_set_self (by rw [leftL_len e]; exact hi), gd]
    congr 1
    rw [List.dropLast_eq_take, List.take_take, List.length_take]
    congr 1
    omega
  · rw [List.getElem?_set_ne hj]
    by_cases h : j < lgs.length
    · rw [leftL_get (getD_get (d := []) h) (by rw [List.getElem?_set_ne hj]; exact getD_get (d := 0) (by omega)), leftL_get (getD_get (d := []) h) (getD_get (d := 0) (by omega))]
    · rw [List.getElem?_eq_none (by rw [leftL_len (by simpa using e)]; omega), List.getElem?_eq_none (by rw [leftL_len e]; omega)]
/-- one step of the way back -/
theorem bwd_step {ms : List Nat} {N : Nat} {lgs : List (List Nat)} {cs : List Nat} {k p : Nat} (fd : List Nat) (e : cs.length = lgs.length) (el : lgs.length = ms.length) (le : ∀ (i c : Nat) (lg : List Nat), cs[i]? = some c → lgs[i]? = some lg → c ≤ lg.length) :
    bwd ms N lgs (k + 1) p cs fd = (match stepB ms N (leftL lgs cs) p with
      | none => (fd, p)
      | some (i, q) => bwd ms N lgs k q (cs.set i (cs.getD i 0 - 1)) (fd ++ [i])) := by
  conv => lhs; unfold bwd
  unfold stepB
  cases hS : findS (lay (szs ms N) 0) p with
  | none =>
    dsimp only
    split <;> rfl
  | some i =>
    dsimp only
    obtain ⟨hi, _, _⟩ := findS_some hS
    have g1 : lgs[i]? = some (lgs.getD i []) := getD_get (by omega)
    have g2 : cs[i]? = some (cs.getD i 0) := getD_get (by omega)
    have gl := leftL_get g1 g2
    have gd : (leftL lgs cs).getD i [] = (lgs.getD i []).take (cs.getD i 0) := by rw [List.getD_eq_getElem?_getD (l := leftL lgs cs), gl]; rfl
    have cl := le i _ _ g2 g1
    rw [gd]
    by_cases hc : cs.getD i 0 = 0
    · rw [hc, if_pos rfl, List.take_zero]
      simp only [List.getLast?_nil]
      split <;> rfl
    · have an : cs.any (fun c => c != 0) = true := by
        rw [List.any_eq_true]
        exact ⟨_, List.mem_of_getElem? g2, by simpa using hc⟩
      have la : ((lgs.getD i []).take (cs.getD i 0)).getLast? = some ((lgs.getD i []).getD (cs.getD i 0 - 1) 0) := by
        rw [List.getLast?_eq_getElem?, List.length_take, Nat.min_eq_left cl, List.getElem?_take, if_pos (by omega)]
        exact getD_get (by omega)
      rw [if_pos an, if_neg hc, la]
      dsimp only
      cases aheadN ms N p i (ms.getD i 1) ((lgs.getD i []).getD (cs.getD i 0 - 1) 0) with
      | none => rfl
      | some q => rfl
theorem le_sum : ∀ {cs : List Nat} {c : Nat}, c ∈ cs → c ≤ cs.sum
  | d :: cs, c, m => by
    rw [List.sum_cons]
    rcases List.mem_cons.mp m with q | q
    · omega
    · have := le_sum q; omega
theorem bwd_stop {ms : List Nat} {N : Nat} {lgs : List (List Nat)} {cs : List Nat} (k p : Nat) (fd : List Nat) (e : cs.sum = 0) : bwd ms N lgs k p cs fd = (fd, p) := by
  cases k with
  | zero => rfl
  | succ k =>
    unfold bwd
    rw [if_neg]
    intro a
    rw [List.any_eq_true] at a
    obtain ⟨c, mc, hc⟩ := a
    have : c ≤ cs.sum := le_sum mc
    have : c = 0 := by omega
    subst this
    simp at hc
end K16

set_option Elab.async false
set_option linter.all false
set_option maxRecDepth 100000
namespace K16
open PySem PySem.Spec PyProof.Rows L2 Py
noncomputable def f__law_back : MF := cutM 11 m__law_back
def bkT (L : List (List Nat)) (fd : List Nat) (J : CH) : CH := cL L ++ (.lst (fd.map dN) :: J)
theorem bk_len {L : List (List Nat)} {n : Nat} (e : L.length = n) (fd : List Nat) (J : CH) : (bkT L fd J).length = n + (1 + J.length) := by
  subst e
  simp [bkT]
  omega
theorem bk_L {L : List (List Nat)} {k : Nat} (hk : k < L.length) (fd : List Nat) (J : CH) : (bkT L fd J)[k]? = some (.lst ((L.getD k []).map dN)) := by
  unfold bkT
  rw [List.getElem?_append_left (by simpa using hk)]
  exact cL_get hk
theorem bk_F {L : List (List Nat)} {n : Nat} (e : L.length = n) (fd : List Nat) (J : CH) : (bkT L fd J)[n]? = some (.lst (fd.map dN)) := by
  unfold bkT
  rw [List.getElem?_append_right (by simp [e])]
  simp [e]
theorem bk_W {L : List (List Nat)} {n : Nat} (e : L.length = n) (fd : List Nat) (J : CH) (c : Cell) : (bkT L fd (J ++ [c]))[n + (1 + J.length)]? = some c := by
  unfold bkT
  rw [List.getElem?_append_right (by simp [e])]
  have : n + (1 + J.length) - (cL L).length = J.length + 1 := by simp [e]; omega
  rw [this, List.getElem?_cons_succ, List.getElem?_append_right (Nat.le_refl _)]
  simp
theorem bk_setL {L : List (List Nat)} {k : Nat} (hk : k < L.length) (fd : List Nat) (J : CH) (l : List Nat) : (bkT L fd J).set k (.lst (l.map dN)) = bkT (L.set k l) fd J := by
  unfold bkT
  rw [List.set_append_left _ _ (by simpa using hk), ← cL_set]
theorem bk_setF {L : List (List Nat)} {n : Nat} (e : L.length = n) (fd : List Nat) (J : CH) (l : List Nat) : (bkT L fd J).set n (.lst (l.map dN)) = bkT L l J := by
  unfold bkT
  rw [List.set_append_right _ _ (by simp [e])]
  simp [e]
theorem bk_setW {L : List (List Nat)} {n : Nat} (e : L.length = n) (fd : List Nat) (J : CH) (c d : Cell) : (bkT L fd (J ++ [c])).set (n + (1 + J.length)) d = bkT L fd (J ++ [d]) := by
  unfold bkT
  rw [List.set_append_right _ _ (by simp [e])]
  have : n + (1 + J.length) - (cL L).length = J.length + 1 := by simp [e]; omega
  rw [this, List.set_cons_succ, List.set_append_right _ _ (Nat.le_refl _)]
  simp
abbrev wD (w : Nat × Nat) : D := .tup [dN w.1, dN w.2]
abbrev condB : ME := mAnd (mBin fEqD (mBin fIx (mBin fIx (mBin fIx (mVar 0) (mVar 8)) (mVar 9)) (mC (.int 0))) (mVar 2)) (mAnd (mBin fNeD (mBin fIx (mVar 5) (mVar 9)) (mLst mNil)) (mBin fEqD (mBin fIx (mBin fIx (mBin fIx (mVar 0) (mVar 8)) (mVar 9)) (mC (.int 1))) (mBin fIx (mBin fIx (mVar 5) (mVar 9)) (mUn fNeg (mC (.int 1))))))
theorem cond_ok {ms : List Nat} {N p a j : Nat} {L : List (List Nat)} {h C : CH} (ha : a < N) (hj : j < ms.length) (el : L.length = ms.length) (sm : ∀ x ∈ L.getD j [], x < 1000000) (gc : C[j]? = some (.lst ((L.getD j []).map dN))) (lg t F W z : Option D) :
    condB [some (movD ms N), some (dN ms.length), some (dN p), lg, t, some (celR h ms.length), F, W, some (dN a), some (dN j), z] (h ++ C) = .ok (.bl (decide (wayC ms N L p a j))) (h ++ C) := by
  have i0 : fIx (h ++ C) (cellD ms N a j) (.int 0) = some (dN (nxt ms N a j)) := fIx_tup (i := 0) rfl
  have i1 : fIx (h ++ C) (cellD ms N a j) (.int 1) = some (dN (a % ms.getD j 1)) := fIx_tup (i := 1) rfl
  have ixc : fIx (h ++ C) (celR h ms.length) (dN j) = some (.cell (h.length + j)) := fIx_lst (by rw [List.getElem?_map, List.getElem?_range hj]; rfl)
  have ne : fNeD (h ++ C) (.cell (h.length + j)) (.lst []) = some (.bl (!((L.getD j []).map dN).isEmpty)) := fNeD_nil (at_off gc) (itD_nats sm)
  by_cases e1 : nxt ms N a j = p
  · by_cases e2 : L.getD j [] = []
    · have w : ¬ wayC ms N L p a j := fun w => by have := w.2; rw [e2] at this; cases this
      simp only [ix_row _ ha, ix_cell _ hj, i0, e1, decide_true, ixc, if_pos (two_ok (n := 0) (by decide)), ne, e2, List.map_nil, List.isEmpty_nil, Bool.not_true, w, decide_false, startD, List.map_cons, List.map_nil, List.length_cons, List.length_nil, List.replicate_succ, List.replicate_zero, List.cons_append, List.nil_append, List.append_nil, sSeq, sNext, sAsg, sExpr, sRet, sRetN, sIf, sPar, sAug, sFor, sNo, sSetF, RE.bind, RE.bindA, RA.bindA, RA.bind, RE.bindS, RS.bind, lift, mVar, mC, mBin, mUn, mCB, mCons, mNil, mTup, mLst, mLstC, mChain, mAnd, mOr, mNot, mIf, mTru, mCall, mFld, ar, gN, gNils, gConss, gT, List.getElem?_cons_zero, List.getElem?_cons_succ, List.set_cons_zero, List.set_cons_succ, fEqD_int, fNeD_int, fAdd_int, fSub_int, fLt_int, fLe_int, fGt_int, fGe_int, Nat.reduceSub, RSrc.bindS, RSrc.bind, RE.src, RA.src, iSeq, iEnum', Src.items, Nat.reduceAdd, reduceIte]
    · have la : (L.getD j []).getLast? = some ((L.getD j []).getLast e2) := List.getLast?_eq_some_getLast e2
      have e3 : ((L.getD j []).map dN).isEmpty = false := by
        cases hq : L.getD j [] with
        | nil => exact absurd hq e2
        | cons _ _ => rfl
      have il : fIx (h ++ C) (.cell (h.length + j)) (.int (-1)) = some (dN ((L.getD j []).getLast e2)) := by
        simp only [fIx, seqOf_off gc]
        refine atI_last ?_
        rw [List.length_map, List.getElem?_map, ← List.getLast?_eq_getElem?, la]
        rfl
      have w : wayC ms N L p a j ↔ a % ms.getD j 1 = (L.getD j []).getLast e2 := by
        unfold wayC
        rw [la]
        simp only [e1, true_and]
        exact ⟨fun q => (Option.some.inj q).symm, fun q => by rw [q]⟩
      simp only [ix_row _ ha, ix_cell _ hj, i0, i1, e1, decide_true, ixc, if_pos (two_ok (n := 0) (by decide)), ne, e3, Bool.not_false, fNeg_int, il, int_eq_iff, w, startD, List.map_cons, List.map_nil, List.length_cons, List.length_nil, List.replicate_succ, List.replicate_zero, List.cons_append, List.nil_append, List.append_nil, sSeq, sNext, sAsg, sExpr, sRet, sRetN, sIf, sPar, sAug, sFor, sNo, sSetF, RE.bind, RE.bindA, RA.bindA, RA.bind, RE.bindS, RS.bind, lift, mVar, mC, mBin, mUn, mCB, mCons, mNil, mTup, mLst, mLstC, mChain, mAnd, mOr, mNot, mIf, mTru, mCall, mFld, ar, gN, gNils, gConss, gT, List.getElem?_cons_zero, List.getElem?_cons_succ, List.set_cons_zero, List.set_cons_succ, fEqD_int, fNeD_int, fAdd_int, fSub_int, fLt_int, fLe_int, fGt_int, fGe_int, Nat.reduceSub, RSrc.bindS, RSrc.bind, RE.src, RA.src, iSeq, iEnum', Src.items, Nat.reduceAdd, reduceIte]
  · have w : ¬ wayC ms N L p a j := fun w => e1 w.1
    have e1' : ¬ ((nxt ms N a j : Nat) : Int) = (p : Int) := by omega
    simp only [ix_row _ ha, ix_cell _ hj, i0, e1', decide_false, w, startD, List.map_cons, List.map_nil, List.length_cons, List.length_nil, List.replicate_succ, List.replicate_zero, List.cons_append, List.nil_append, List.append_nil, sSeq, sNext, sAsg, sExpr, sRet, sRetN, sIf, sPar, sAug, sFor, sNo, sSetF, RE.bind, RE.bindA, RA.bindA, RA.bind, RE.bindS, RS.bind, lift, mVar, mC, mBin, mUn, mCB, mCons, mNil, mTup, mLst, mLstC, mChain, mAnd, mOr, mNot, mIf, mTru, mCall, mFld, ar, gN, gNils, gConss, gT, List.getElem?_cons_zero, List.getElem?_cons_succ, List.set_cons_zero, List.set_cons_succ, fEqD_int, fNeD_int, fAdd_int, fSub_int, fLt_int, fLe_int, fGt_int, fGe_int, Nat.reduceSub, RSrc.bindS, RSrc.bind, RE.src, RA.src, iSeq, iEnum', Src.items, Nat.reduceAdd, reduceIte]
/-- the ways from one place -/
theorem back_row {ms : List Nat} {N p a : Nat} {L : List (List Nat)} {h J : CH} {fd : List Nat} (all : ∀ x ∈ ms, 0 < x) (hn : ms.length ≤ 1000) (ha : a < N) (el : L.length = ms.length) (mk : ∀ (i m : Nat), ms[i]? = some m → ∀ x ∈ L.getD i [], x < m) (sm : ∀ j, ∀ x ∈ L.getD j [], x < 1000000) (lg t F hd z : Option D) :
    ∃ hd', lp__law_back_0 [some (movD ms N), some (dN ms.length), some (dN p), lg, t, some (celR h ms.length), F, some (.cell (h.length + (ms.length + (1 + J.length)))), some (dN a), hd, z] (h ++ bkT L fd (J ++ [.lst ((wayAt (stepB ms N L p) a 0).map wD)])) =
      .nx [some (movD ms N), some (dN ms.length), some (dN p), lg, t, some (celR h ms.length), F, some (.cell (h.length + (ms.length + (1 + J.length)))), some (dN a), hd', z] (h ++ bkT L fd (J ++ [.lst ((wayAt (stepB ms N L p) a ms.length).map wD)])) := by
  obtain ⟨s', h', w, hd', ez, eh⟩ : ∃ s' h', lp__law_back_0 [some (movD ms N), some (dN ms.length), some (dN p), lg, t, some (celR h ms.length), F, some (.cell (h.length + (ms.length + (1 + J.length)))), some (dN a), hd, z] (h ++ bkT L fd (J ++ [.lst ((wayAt (stepB ms N L p) a 0).map wD)])) = .nx s' h' ∧
      ∃ hd', s' = [some (movD ms N), some (dN ms.length), some (dN p), lg, t, some (celR h ms.length), F, some (.cell (h.length + (ms.length + (1 + J.length)))), some (dN a), hd', z] ∧ h' = h ++ bkT L fd (J ++ [.lst ((wayAt (stepB ms N L p) a (rangeD 0 ms.length).length).map wD)]) :=
    by
    unfold lp__law_back_0
    exact sFor_all (x := .fix (rangeD 0 ms.length)) (l := rangeD 0 ms.length) (fun i s h' => ∃ hd', s = [some (movD ms N), some (dN ms.length), some (dN p), lg, t, some (celR h ms.length), F, some (.cell (h.length + (ms.length + (1 + J.length)))), some (dN a), hd', z] ∧ h' = h ++ bkT L fd (J ++ [.lst ((wayAt (stepB ms N L p) a i).map wD)]))
      (iR1 (by simp only [startD, List.map_cons, List.map_nil, List.length_cons, List.length_nil, List.replicate_succ, List.replicate_zero, List.cons_append, List.nil_append, List.append_nil, sSeq, sNext, sAsg, sExpr, sRet, sRetN, sIf, sPar, sAug, sFor, sNo, sSetF, RE.bind, RE.bindA, RA.bindA, RA.bind, RE.bindS, RS.bind, lift, mVar, mC, mBin, mUn, mCB, mCons, mNil, mTup, mLst, mLstC, mChain, mAnd, mOr, mNot, mIf, mTru, mCall, mFld, ar, gN, gNils, gConss, gT, List.getElem?_cons_zero, List.getElem?_cons_succ, List.set_cons_zero, List.set_cons_succ, fEqD_int, fNeD_int, fAdd_int, fSub_int, fLt_int, fLe_int, fGt_int, fGe_int, Nat.reduceSub, RSrc.bindS, RSrc.bind, RE.src, RA.src, iSeq, iEnum', Src.items, Nat.reduceAdd, reduceIte]) (by omega)) ⟨hd, rfl, rfl⟩ (fun i s h' _ => rfl) (fun j d s h' ⟨hd', es, eh⟩ ed => by
      subst es eh
      obtain ⟨hj, rfl⟩ := rangeD_get ed
      rw [Int.zero_add]
      have co := cond_ok (h := h) (p := p) (W := some (.cell (h.length + (ms.length + (1 + J.length))))) ha hj el (sm j) (bk_L (by omega) fd (J ++ [.lst ((wayAt (stepB ms N L p) a j).map wD)])) lg t F z
      by_cases c : wayC ms N L p a j
      · have hit := wayAt_hit (step_of_way all ha hj c)
        have gW := bk_W el fd J (.lst ((wayAt (stepB ms N L p) a j).map wD))
        have il := isLst_off (h := h) gW
        have ap := appAt_off (h := h) (d := wD (j, a)) gW (by rw [List.length_map]; have := wayAt_len (stepB ms N L p) a j; rw [sizeLine_eq]; omega)
        rw [bk_setW el, hit.1] at ap
        have e2 : ((([] : List (Nat × Nat)).map wD) ++ [wD (j, a)]) = (wayAt (stepB ms N L p) a (j + 1)).map wD := by rw [hit.2]; rfl
        rw [e2] at ap
        rw [hit.1] at il co
        refine ⟨_, [some (movD ms N), some (dN ms.length), some (dN p), lg, t, some (celR h ms.length), F, some (.cell (h.length + (ms.length + (1 + J.length)))), some (dN a), some (dN j), z], h ++ bkT L fd (J ++ [.lst ((wayAt (stepB ms N L p) a (j + 1)).map wD)]), rfl, .inl ?_, some (dN j), rfl, rfl⟩
        rw [hit.1]
        have co2 : condB ([some (movD ms N), some (dN ms.length), some (dN p), lg, t, some (celR h ms.length), F, some (.cell (h.length + (ms.length + (1 + J.length)))), some (dN a), hd', z].set 9 (some (dN j))) _ = _ := co
        simp only [List.set_cons_zero, List.set_cons_succ] at co2
        refine (seq_if co2).trans ?_
        rw [decide_eq_true c, if_pos rfl]
        have apk := app_ok (x := mVar 7) (m := mTup (mCons (mVar 9) (mCons (mVar 8) mNil))) (s := [some (movD ms N), some (dN ms.length), some (dN p), lg, t, some (celR h ms.length), F, some (.cell (h.length + (ms.length + (1 + J.length)))), some (dN a), some (dN j), z]) rfl il (by simp only [if_pos (two_ok (n := 2) (by decide)), startD, List.map_cons, List.map_nil, List.length_cons, List.length_nil, List.replicate_succ, List.replicate_zero, List.cons_append, List.nil_append, List.append_nil, sSeq, sNext, sAsg, sExpr, sRet, sRetN, sIf, sPar, sAug, sFor, sNo, sSetF, RE.bind, RE.bindA, RA.bindA, RA.bind, RE.bindS, RS.bind, lift, mVar, mC, mBin, mUn, mCB, mCons, mNil, mTup, mLst, mLstC, mChain, mAnd, mOr, mNot, mIf, mTru, mCall, mFld, ar, gN, gNils, gConss, gT, List.getElem?_cons_zero, List.getElem?_cons_succ, List.set_cons_zero, List.set_cons_succ, fEqD_int, fNeD_int, fAdd_int, fSub_int, fLt_int, fLe_int, fGt_int, fGe_int, Nat.reduceSub, RSrc.bindS, RSrc.bind, RE.src, RA.src, iSeq, iEnum', Src.items, Nat.reduceAdd, reduceIte]) ap
        exact (seq_nx ((seq_expr apk).trans rfl)).trans rfl
      · have ms' : stepB ms N L p ≠ some (j, a) := fun q => c (way_of_step mk q).2.2.1
        refine ⟨_, [some (movD ms N), some (dN ms.length), some (dN p), lg, t, some (celR h ms.length), F, some (.cell (h.length + (ms.length + (1 + J.length)))), some (dN a), some (dN j), z], h ++ bkT L fd (J ++ [.lst ((wayAt (stepB ms N L p) a j).map wD)]), rfl, .inl ?_, some (dN j), rfl, by rw [wayAt_miss ms']⟩
        have co2 : condB ([some (movD ms N), some (dN ms.length), some (dN p), lg, t, some (celR h ms.length), F, some (.cell (h.length + (ms.length + (1 + J.length)))), some (dN a), hd', z].set 9 (some (dN j))) _ = _ := co
        simp only [List.set_cons_zero, List.set_cons_succ] at co2
        refine (seq_if co2).trans ?_
        rw [decide_eq_false c]
        rfl)
  rw [range_len1] at eh
  subst ez eh
  exact ⟨hd', w⟩
end K16

set_option Elab.async false
set_option linter.all false
set_option maxRecDepth 100000
namespace K16
open PySem PySem.Spec PyProof.Rows L2 Py
/-- all ways -/
theorem back_ways {ms : List Nat} {N p : Nat} {L : List (List Nat)} {h J : CH} {fd : List Nat} (all : ∀ x ∈ ms, 0 < x) (hn : ms.length ≤ 1000) (nb : N < 10000) (el : L.length = ms.length) (mk : ∀ (i m : Nat), ms[i]? = some m → ∀ x ∈ L.getD i [], x < m) (sm : ∀ j, ∀ x ∈ L.getD j [], x < 1000000) (lg t F a hd z : Option D) :
    ∃ a' hd', lp__law_back_1 [some (movD ms N), some (dN ms.length), some (dN p), lg, t, some (celR h ms.length), F, some (.cell (h.length + (ms.length + (1 + J.length)))), a, hd, z] (h ++ bkT L fd (J ++ [.lst []])) =
      .nx [some (movD ms N), some (dN ms.length), some (dN p), lg, t, some (celR h ms.length), F, some (.cell (h.length + (ms.length + (1 + J.length)))), a', hd', z] (h ++ bkT L fd (J ++ [.lst ((stepB ms N L p).toList.map wD)])) := by
  have st := wayAt_0 (stepB ms N L p)
  obtain ⟨s', h', w, a', hd', ez, eh⟩ : ∃ s' h', lp__law_back_1 [some (movD ms N), some (dN ms.length), some (dN p), lg, t, some (celR h ms.length), F, some (.cell (h.length + (ms.length + (1 + J.length)))), a, hd, z] (h ++ bkT L fd (J ++ [.lst ((wayAt (stepB ms N L p) 0 0).map wD)])) = .nx s' h' ∧
      ∃ a' hd', s' = [some (movD ms N), some (dN ms.length), some (dN p), lg, t, some (celR h ms.length), F, some (.cell (h.length + (ms.length + (1 + J.length)))), a', hd', z] ∧ h' = h ++ bkT L fd (J ++ [.lst ((wayAt (stepB ms N L p) (rangeD 0 N).length 0).map wD)]) :=
    by
    unfold lp__law_back_1
    exact sFor_all (x := .fix (rangeD 0 N)) (l := rangeD 0 N) (fun i s h' => ∃ a' hd', s = [some (movD ms N), some (dN ms.length), some (dN p), lg, t, some (celR h ms.length), F, some (.cell (h.length + (ms.length + (1 + J.length)))), a', hd', z] ∧ h' = h ++ bkT L fd (J ++ [.lst ((wayAt (stepB ms N L p) i 0).map wD)]))
      (iR1 (by simp only [cLen, seqOf, lstOf, Option.map_some, List.length_map, List.length_range, startD, List.map_cons, List.map_nil, List.length_cons, List.length_nil, List.replicate_succ, List.replicate_zero, List.cons_append, List.nil_append, List.append_nil, sSeq, sNext, sAsg, sExpr, sRet, sRetN, sIf, sPar, sAug, sFor, sNo, sSetF, RE.bind, RE.bindA, RA.bindA, RA.bind, RE.bindS, RS.bind, lift, mVar, mC, mBin, mUn, mCB, mCons, mNil, mTup, mLst, mLstC, mChain, mAnd, mOr, mNot, mIf, mTru, mCall, mFld, ar, gN, gNils, gConss, gT, List.getElem?_cons_zero, List.getElem?_cons_succ, List.set_cons_zero, List.set_cons_succ, fEqD_int, fNeD_int, fAdd_int, fSub_int, fLt_int, fLe_int, fGt_int, fGe_int, Nat.reduceSub, RSrc.bindS, RSrc.bind, RE.src, RA.src, iSeq, iEnum', Src.items, Nat.reduceAdd, reduceIte]) (by omega)) ⟨a, hd, rfl, rfl⟩ (fun i s h' _ => rfl) (fun i d s h' ⟨a', hd', es, eh⟩ ed => by
      subst es eh
      obtain ⟨hi, rfl⟩ := rangeD_get ed
      rw [Int.zero_add]
      obtain ⟨hd2, w⟩ := back_row (h := h) (J := J) (fd := fd) (p := p) (L := L) all hn hi el mk sm lg t F hd' z
      refine ⟨_, [some (movD ms N), some (dN ms.length), some (dN p), lg, t, some (celR h ms.length), F, some (.cell (h.length + (ms.length + (1 + J.length)))), some (dN i), hd2, z], h ++ bkT L fd (J ++ [.lst ((wayAt (stepB ms N L p) (i + 1) 0).map wD)]), rfl, .inl ?_, some (dN i), hd2, rfl, rfl⟩
      rw [← wayAt_row (n := ms.length) fun j q e => (way_of_step mk e).1]
      exact seq_nx w)
  rw [range_len1, wayAt_end fun j q e => (way_of_step mk e).2.1] at eh
  subst ez eh
  rw [st] at w
  exact ⟨a', hd', w⟩
theorem back_turn {ms : List Nat} {N p : Nat} {L : List (List Nat)} {h J : CH} {fd : List Nat} (all : ∀ x ∈ ms, 0 < x) (hn : ms.length ≤ 1000) (nb : N < 10000) (el : L.length = ms.length) (mk : ∀ (i m : Nat), ms[i]? = some m → ∀ x ∈ L.getD i [], x < m) (sm : ∀ j, ∀ x ∈ L.getD j [], x < 1000000) (fl : fd.length ≤ 10000) (lg t w a hd z : Option D) {body : MS} (eb : body = (sSeq (sAsg (mLstC mNil) (gN 7)) (sSeq (lp__law_back_1) (sSeq (sIf (mBin fEqD (mVar 7) (mLst mNil)) (sSeq sBk sNext) sNext) (sSeq (sAsg (mBin fIx (mVar 7) (mC (.int 0))) (gT 2 (gConss (gN 9) (gConss (gN 2) gNils)))) (sSeq (sExpr (mPop (mBin fIx (mVar 5) (mVar 9)))) (sSeq (sExpr (mApp (mVar 6) (mVar 9))) sNext))))))) :
    ∃ (w' a' hd' : Option D) (W : Cell), body [some (movD ms N), some (dN ms.length), some (dN p), lg, t, some (celR h ms.length), some (.cell (h.length + ms.length)), w, a, hd, z] (h ++ bkT L fd J) =
      (match stepB ms N L p with
      | none => .bk [some (movD ms N), some (dN ms.length), some (dN p), lg, t, some (celR h ms.length), some (.cell (h.length + ms.length)), w', a', hd', z] (h ++ bkT L fd (J ++ [W]))
      | some (i, q) => .nx [some (movD ms N), some (dN ms.length), some (dN q), lg, t, some (celR h ms.length), some (.cell (h.length + ms.length)), w', a', hd', z] (h ++ bkT (L.set i (L.getD i []).dropLast) (fd ++ [i]) (J ++ [W]))) := by
  subst eb
  have al : (h ++ bkT L fd J).length = h.length + (ms.length + (1 + J.length)) := by rw [List.length_append, bk_len el]
  have ac : h ++ bkT L fd J ++ [.lst []] = h ++ bkT L fd (J ++ [.lst []]) := by simp [bkT]
  obtain ⟨a', hd', wy⟩ := back_ways (h := h) (J := J) (fd := fd) (p := p) (N := N) all hn nb el mk sm lg t (some (.cell (h.length + ms.length))) a hd z
  have gW := bk_W el fd J (.lst ((stepB ms N L p).toList.map wD))
  have itw : ((stepB ms N L p).toList.map wD).all (itD 8) = true := by
    cases hs : stepB ms N L p with
    | none => rfl
    | some x =>
      obtain ⟨i, q⟩ := x
      obtain ⟨w1, w2, _⟩ := way_of_step mk hs
      simp only [Option.toList_some, List.map_cons, List.map_nil, List.all_cons, List.all_nil, Bool.and_true, itD, decide_eq_true_eq, Bool.and_eq_true]
      omega
  have eq0 := fEqD_nil (h := h ++ bkT L fd (J ++ [.lst ((stepB ms N L p).toList.map wD)])) (n := h.length + (ms.length + (1 + J.length))) (at_off gW) itw
  cases hs : stepB ms N L p with
  | none =>
    rw [hs] at wy eq0
    refine ⟨some (.cell (h.length + (ms.length + (1 + J.length)))), a', hd', .lst [], ?_⟩
    simp only [Option.toList_none, List.map_nil, List.isEmpty_nil] at wy eq0
    refine (seq_asg (m := mLstC mNil) (d := .cell (h.length + (ms.length + (1 + J.length)))) (h1 := h ++ bkT L fd (J ++ [.lst []])) (s1 := [some (movD ms N), some (dN ms.length), some (dN p), lg, t, some (celR h ms.length), some (.cell (h.length + ms.length)), some (.cell (h.length + (ms.length + (1 + J.length)))), a, hd, z]) (by simp only [if_pos (two_ok (n := 0) (by decide)), al, ac, startD, List.map_cons, List.map_nil, List.length_cons, List.length_nil, List.replicate_succ, List.replicate_zero, List.cons_append, List.nil_append, List.append_nil, sSeq, sNext, sAsg, sExpr, sRet, sRetN, sIf, sPar, sAug, sFor, sNo, sSetF, RE.bind, RE.bindA, RA.bindA, RA.bind, RE.bindS, RS.bind, lift, mVar, mC, mBin, mUn, mCB, mCons, mNil, mTup, mLst, mLstC, mChain, mAnd, mOr, mNot, mIf, mTru, mCall, mFld, ar, gN, gNils, gConss, gT, List.getElem?_cons_zero, List.getElem?_cons_succ, List.set_cons_zero, List.set_cons_succ, fEqD_int, fNeD_int, fAdd_int, fSub_int, fLt_int, fLe_int, fGt_int, fGe_int, Nat.reduceSub, RSrc.bindS, RSrc.bind, RE.src, RA.src, iSeq, iEnum', Src.items, Nat.reduceAdd, reduceIte]) rfl).trans ?_
    rw [seq_nx wy]
    simp only [if_pos (two_ok (n := 0) (by decide)), eq0, sBk, startD, List.map_cons, List.map_nil, List.length_cons, List.length_nil, List.replicate_succ, List.replicate_zero, List.cons_append, List.nil_append, List.append_nil, sSeq, sNext, sAsg, sExpr, sRet, sRetN, sIf, sPar, sAug, sFor, sNo, sSetF, RE.bind, RE.bindA, RA.bindA, RA.bind, RE.bindS, RS.bind, lift, mVar, mC, mBin, mUn, mCB, mCons, mNil, mTup, mLst, mLstC, mChain, mAnd, mOr, mNot, mIf, mTru, mCall, mFld, ar, gN, gNils, gConss, gT, List.getElem?_cons_zero, List.getElem?_cons_succ, List.set_cons_zero, List.set_cons_succ, fEqD_int, fNeD_int, fAdd_int, fSub_int, fLt_int, fLe_int, fGt_int, fGe_int, Nat.reduceSub, RSrc.bindS, RSrc.bind, RE.src, RA.src, iSeq, iEnum', Src.items, Nat.reduceAdd, reduceIte]
  | some x =>
    obtain ⟨i, q⟩ := x
    obtain ⟨w1, w2, _, _, xx, w5, _⟩ := way_of_step mk hs
    rw [hs] at wy eq0 gW
    simp only [Option.toList_some, List.map_cons, List.map_nil, List.isEmpty_cons] at wy eq0 gW
    have hi : i < L.length := by omega
    have ix0 : fIx (h ++ bkT L fd (J ++ [.lst [wD (i, q)]])) (.cell (h.length + (ms.length + (1 + J.length)))) (.int 0) = some (wD (i, q)) := by
      simp only [fIx, seqOf_off gW]
      rfl
    have ixc : ∀ H : CH, fIx H (celR h ms.length) (dN i) = some (.cell (h.length + i)) := fun H => fIx_lst (by rw [List.getElem?_map, List.getElem?_range w1]; rfl)
    have pp := popAt_off (h := h) (bk_L hi fd (J ++ [.lst [wD (i, q)]])) (d := dN xx) (by
      rw [List.length_map, List.getElem?_map, ← List.getLast?_eq_getElem?, w5]
      rfl)
    have dl : ((L.getD i []).map dN).dropLast = (L.getD i []).dropLast.map dN := by rw [List.map_dropLast]
    rw [dl, bk_setL hi] at pp
    have el2 : (L.set i (L.getD i []).dropLast).length = ms.length := by rw [List.length_set]; exact el
    have gF := bk_F el2 fd (J ++ [.lst [wD (i, q)]])
    have il := isLst_off (h := h) gF
    have ap := appAt_off (h := h) (d := dN i) gF (by rw [List.length_map, sizeLine_eq]; omega)
    have e5 : fd.map dN ++ [dN i] = (fd ++ [i]).map dN := by rw [List.map_append]; rfl
    rw [e5, bk_setF el2] at ap
    refine ⟨some (.cell (h.length + (ms.length + (1 + J.length)))), a', some (dN i), .lst [wD (i, q)], ?_⟩
    refine (seq_asg (m := mLstC mNil) (d := .cell (h.length + (ms.length + (1 + J.length)))) (h1 := h ++ bkT L fd (J ++ [.lst []])) (s1 := [some (movD ms N), some (dN ms.length), some (dN p), lg, t, some (celR h ms.length), some (.cell (h.length + ms.length)), some (.cell (h.length + (ms.length + (1 + J.length)))), a, hd, z]) (by simp only [if_pos (two_ok (n := 0) (by decide)), al, ac, startD, List.map_cons, List.map_nil, List.length_cons, List.length_nil, List.replicate_succ, List.replicate_zero, List.cons_append, List.nil_append, List.append_nil, sSeq, sNext, sAsg, sExpr, sRet, sRetN, sIf, sPar, sAug, sFor, sNo, sSetF, RE.bind, RE.bindA, RA.bindA, RA.bind, RE.bindS, RS.bind, lift, mVar, mC, mBin, mUn, mCB, mCons, mNil, mTup, mLst, mLstC, mChain, mAnd, mOr, mNot, mIf, mTru, mCall, mFld, ar, gN, gNils, gConss, gT, List.getElem?_cons_zero, List.getElem?_cons_succ, List.set_cons_zero, List.set_cons_succ, fEqD_int, fNeD_int, fAdd_int, fSub_int, fLt_int, fLe_int, fGt_int, fGe_int, Nat.reduceSub, RSrc.bindS, RSrc.bind, RE.src, RA.src, iSeq, iEnum', Src.items, Nat.reduceAdd, reduceIte]) rfl).trans ?_
    rw [seq_nx wy]
    simp only [if_pos (two_ok (n := 0) (by decide)), eq0, ix0, ixc, mPop, pp, mApp, il, ap, startD, List.map_cons, List.map_nil, List.length_cons, List.length_nil, List.replicate_succ, List.replicate_zero, List.cons_append, List.nil_append, List.append_nil, sSeq, sNext, sAsg, sExpr, sRet, sRetN, sIf, sPar, sAug, sFor, sNo, sSetF, RE.bind, RE.bindA, RA.bindA, RA.bind, RE.bindS, RS.bind, lift, mVar, mC, mBin, mUn, mCB, mCons, mNil, mTup, mLst, mLstC, mChain, mAnd, mOr, mNot, mIf, mTru, mCall, mFld, ar, gN, gNils, gConss, gT, List.getElem?_cons_zero, List.getElem?_cons_succ, List.set_cons_zero, List.set_cons_succ, fEqD_int, fNeD_int, fAdd_int, fSub_int, fLt_int, fLe_int, fGt_int, fGe_int, Nat.reduceSub, RSrc.bindS, RSrc.bind, RE.src, RA.src, iSeq, iEnum', Src.items, Nat.reduceAdd, reduceIte]
theorem sum_dec : ∀ {cs : List Nat} {i : Nat}, cs.getD i 0 ≠ 0 → (cs.set i (cs.getD i 0 - 1)).sum + 1 = cs.sum
  | [], i, h => by simp at h
  | c :: cs, 0, h => by simp at h ⊢; omega
  | c :: cs, i + 1, h => by
    have h' : cs.getD i 0 ≠ 0 := by simpa using h
    have := sum_dec h'
    simp only [List.getD_cons_succ, List.set_cons_succ, List.sum_cons]
    omega
theorem back_ok {ms : List Nat} {N p : Nat} {lgs : List (List Nat)} {h : CH} (cm : okMs ms = true) (nb : N < 10000) (hp : p < N) (ok : okLogs ms lgs) (sl : (lgs.map List.length).sum < 1000) (bl : ∀ c ∈ h, c.low h.length = true) :
    f__law_back [movD ms N, dN ms.length, dN p, .tup (lgs.map tN)] h = .ok (.tup [tN (bwd ms N lgs 1000 p (lgs.map List.length) []).1.reverse, dN (bwd ms N lgs 1000 p (lgs.map List.length) []).2]) h := by
  have hn := okMs_len cm
  have hm := okMs_mem cm
  have all : ∀ x ∈ ms, 0 < x := fun x m => (hm x m).1
  have el0 : lgs.length = ms.length := ok.1
  have lc0 : ∀ (a b c d e f g : Option D), lc__law_back_0 [some (movD ms N), some (dN ms.length), some (dN p), some (.tup (lgs.map tN)), a, b, c, d, e, f, g] h = .ok (celR h ms.length) (h ++ cL lgs) := fun a b c d e f g => by
    have z := mLc_cells (mi := iSeq (mVar 3)) (gm := gN 10) (me := mListC (mCons (mVar 10) mNil)) (vs := [10]) (s := [some (movD ms N), some (dN ms.length), some (dN p), some (.tup (lgs.map tN)), a, b, c, d, e, f, g]) (h := h) (h1 := h) (xs := lgs) tN (fun lg => .lst (lg.map dN))
      (by simp only [srcOf, startD, List.map_cons, List.map_nil, List.length_cons, List.length_nil, List.replicate_succ, List.replicate_zero, List.cons_append, List.nil_append, List.append_nil, sSeq, sNext, sAsg, sExpr, sRet, sRetN, sIf, sPar, sAug, sFor, sNo, sSetF, RE.bind, RE.bindA, RA.bindA, RA.bind, RE.bindS, RS.bind, lift, mVar, mC, mBin, mUn, mCB, mCons, mNil, mTup, mLst, mLstC, mChain, mAnd, mOr, mNot, mIf, mTru, mCall, mFld, ar, gN, gNils, gConss, gT, List.getElem?_cons_zero, List.getElem?_cons_succ, List.set_cons_zero, List.set_cons_succ, fEqD_int, fNeD_int, fAdd_int, fSub_int, fLt_int, fLe_int, fGt_int, fGe_int, Nat.reduceSub, RSrc.bindS, RSrc.bind, RE.src, RA.src, iSeq, iEnum', Src.items, Nat.reduceAdd, reduceIte]) (sz_of (n := lgs.length) (m := 8) (by omega)) fun y _ => ⟨_, rfl, fun C => by simp only [wipeS, mListC, seqOf, List.length_append, startD, List.map_cons, List.map_nil, List.length_cons, List.length_nil, List.replicate_succ, List.replicate_zero, List.cons_append, List.nil_append, List.append_nil, sSeq, sNext, sAsg, sExpr, sRet, sRetN, sIf, sPar, sAug, sFor, sNo, sSetF, RE.bind, RE.bindA, RA.bindA, RA.bind, RE.bindS, RS.bind, lift, mVar, mC, mBin, mUn, mCB, mCons, mNil, mTup, mLst, mLstC, mChain, mAnd, mOr, mNot, mIf, mTru, mCall, mFld, ar, gN, gNils, gConss, gT, List.getElem?_cons_zero, List.getElem?_cons_succ, List.set_cons_zero, List.set_cons_succ, fEqD_int, fNeD_int, fAdd_int, fSub_int, fLt_int, fLe_int, fGt_int, fGe_int, Nat.reduceSub, RSrc.bindS, RSrc.bind, RE.src, RA.src, iSeq, iEnum', Src.items, Nat.reduceAdd, reduceIte]⟩
    rw [el0] at z
    exact z
  have lc1 : ∀ (H : CH) (a b c d e f g : Option D), lc__law_back_1 [some (movD ms N), some (dN ms.length), some (dN p), some (.tup (lgs.map tN)), a, b, c, d, e, f, g] H = .ok (.lst ((lgs.map List.length).map dN)) H := fun H a b c d e f g => by
    have z := mLc_all (mi := iSeq (mVar 3)) (gm := gN 10) (me := mCB cLen (mCons (mVar 10) mNil)) (vs := [10]) (s := [some (movD ms N), some (dN ms.length), some (dN p), some (.tup (lgs.map tN)), a, b, c, d, e, f, g]) (h := H) (h1 := H) (x := .fix (lgs.map tN)) tN (fun lg => dN lg.length)
      (by simp only [srcOf, startD, List.map_cons, List.map_nil, List.length_cons, List.length_nil, List.replicate_succ, List.replicate_zero, List.cons_append, List.nil_append, List.append_nil, sSeq, sNext, sAsg, sExpr, sRet, sRetN, sIf, sPar, sAug, sFor, sNo, sSetF, RE.bind, RE.bindA, RA.bindA, RA.bind, RE.bindS, RS.bind, lift, mVar, mC, mBin, mUn, mCB, mCons, mNil, mTup, mLst, mLstC, mChain, mAnd, mOr, mNot, mIf, mTru, mCall, mFld, ar, gN, gNils, gConss, gT, List.getElem?_cons_zero, List.getElem?_cons_succ, List.set_cons_zero, List.set_cons_succ, fEqD_int, fNeD_int, fAdd_int, fSub_int, fLt_int, fLe_int, fGt_int, fGe_int, Nat.reduceSub, RSrc.bindS, RSrc.bind, RE.src, RA.src, iSeq, iEnum', Src.items, Nat.reduceAdd, reduceIte]) rfl (sz_of (n := lgs.length) (m := 8) (by omega)) fun lg mg => ⟨_, rfl, by simp only [wipeS, cLen, seqOf, Option.map_some, List.length_map, startD, List.map_cons, List.map_nil, List.length_cons, List.length_nil, List.replicate_succ, List.replicate_zero, List.cons_append, List.nil_append, List.append_nil, sSeq, sNext, sAsg, sExpr, sRet, sRetN, sIf, sPar, sAug, sFor, sNo, sSetF, RE.bind, RE.bindA, RA.bindA, RA.bind, RE.bindS, RS.bind, lift, mVar, mC, mBin, mUn, mCB, mCons, mNil, mTup, mLst, mLstC, mChain, mAnd, mOr, mNot, mIf, mTru, mCall, mFld, ar, gN, gNils, gConss, gT, List.getElem?_cons_zero, List.getElem?_cons_succ, List.set_cons_zero, List.set_cons_succ, fEqD_int, fNeD_int, fAdd_int, fSub_int, fLt_int, fLe_int, fGt_int, fGe_int, Nat.reduceSub, RSrc.bindS, RSrc.bind, RE.src, RA.src, iSeq, iEnum', Src.items, Nat.reduceAdd, reduceIte]⟩
    have em : (lgs.map List.length).map dN = lgs.map fun lg => dN lg.length := by rw [List.map_map]; rfl
    rw [em]
    exact z
  generalize hS : (lgs.map List.length).sum = S at sl
  have mk0 : ∀ (cs : List Nat), cs.length = lgs.length → ∀ (i m : Nat), ms[i]? = some m → ∀ x ∈ (leftL lgs cs).getD i [], x < m := by
    intro cs ec i m em x mx
    have hi : i < lgs.length := by rw [el0]; exact (List.getElem?_eq_some_iff.mp em).1
    have gl := leftL_get (getD_get (d := []) hi) (getD_get (l := cs) (d := 0) (by omega))
    rw [List.getD_eq_getElem?_getD, gl] at mx
    exact ok.2.2 i _ m (getD_get (d := []) hi) em x (List.mem_of_mem_take mx)
  have sm0 : ∀ (cs : List Nat), cs.length = lgs.length → ∀ j, ∀ x ∈ (leftL lgs cs).getD j [], x < 1000000 := by
    intro cs ec j x mx
    by_cases hj : j < ms.length
    · have := mk0 cs ec j _ (List.getElem?_eq_getElem hj) x mx
      have := hm _ (List.getElem_mem hj)
      omega
    · rw [List.getD_eq_getElem?_getD, List.getElem?_eq_none (by rw [leftL_len ec]; omega)] at mx
      cases mx
  obtain ⟨s', h', w, res⟩ := sFor_bk (mi := iRange1 (mCons (mCB cSum (mCons (lc__law_back_1) mNil)) mNil)) (g := gN 4) (mb := (sSeq (sAsg (mLstC mNil) (gN 7)) (sSeq (lp__law_back_1) (sSeq (sIf (mBin fEqD (mVar 7) (mLst mNil)) (sSeq sBk sNext) sNext) (sSeq (sAsg (mBin fIx (mVar 7) (mC (.int 0))) (gT 2 (gConss (gN 9) (gConss (gN 2) gNils)))) (sSeq (sExpr (mPop (mBin fIx (mVar 5) (mVar 9)))) (sSeq (sExpr (mApp (mVar 6) (mVar 9))) sNext)))))))
    (s := [some (movD ms N), some (dN ms.length), some (dN p), some (.tup (lgs.map tN)), none, some (celR h ms.length), some (.cell (h.length + ms.length)), none, none, none, none]) (h := h ++ bkT lgs [] []) (h1 := h ++ bkT lgs [] []) (l := rangeD 0 S)
    (fun t s H => ∃ (cs fd : List Nat) (q : Nat) (J : CH) (tv w a hd : Option D), s = [some (movD ms N), some (dN ms.length), some (dN q), some (.tup (lgs.map tN)), tv, some (celR h ms.length), some (.cell (h.length + ms.length)), w, a, hd, none] ∧ H = h ++ bkT (leftL lgs cs) fd J ∧
      cs.length = lgs.length ∧ (∀ (i c : Nat) (lg : List Nat), cs[i]? = some c → lgs[i]? = some lg → c ≤ lg.length) ∧ cs.sum + t = S ∧ q < N ∧ fd.length ≤ t ∧ bwd ms N lgs 1000 p (lgs.map List.length) [] = bwd ms N lgs (1000 - t) q cs fd)
    (fun s H => ∃ (L : List (List Nat)) (fd : List Nat) (q : Nat) (J : CH) (tv w a hd : Option D), s = [some (movD ms N), some (dN ms.length), some (dN q), some (.tup (lgs.map tN)), tv, some (celR h ms.length), some (.cell (h.length + ms.length)), w, a, hd, none] ∧ H = h ++ bkT L fd J ∧ L.length = ms.length ∧ bwd ms N lgs 1000 p (lgs.map List.length) [] = (fd, q))
    (iR1 (by simp only [lc1, cSum, lsOf, lstOf, intsOf_nats, sum_nats, Option.map_some, hS, startD, List.map_cons, List.map_nil, List.length_cons, List.length_nil, List.replicate_succ, List.replicate_zero, List.cons_append, List.nil_append, List.append_nil, sSeq, sNext, sAsg, sExpr, sRet, sRetN, sIf, sPar, sAug, sFor, sNo, sSetF, RE.bind, RE.bindA, RA.bindA, RA.bind, RE.bindS, RS.bind, lift, mVar, mC, mBin, mUn, mCB, mCons, mNil, mTup, mLst, mLstC, mChain, mAnd, mOr, mNot, mIf, mTru, mCall, mFld, ar, gN, gNils, gConss, gT, List.getElem?_cons_zero, List.getElem?_cons_succ, List.set_cons_zero, List.set_cons_succ, fEqD_int, fNeD_int, fAdd_int, fSub_int, fLt_int, fLe_int, fGt_int, fGe_int, Nat.reduceSub, RSrc.bindS, RSrc.bind, RE.src, RA.src, iSeq, iEnum', Src.items, Nat.reduceAdd, reduceIte]) (by omega))
    ⟨lgs.map List.length, [], p, [], none, none, none, none, rfl, by rw [leftL_all], by simp, fun i c lg e1 e2 => by rw [List.getElem?_map, e2] at e1; cases e1; exact Nat.le_refl _, by omega, hp, Nat.le_refl _, rfl⟩
    (fun t d s H ⟨cs, fd, q, J, tv, w, a, hd, es, eh, ec, le, su, hq, fl, eb⟩ ed => by
      subst es eh
      obtain ⟨ht, rfl⟩ := rangeD_get ed
      rw [Int.zero_add]
      have eL : (leftL lgs cs).length = ms.length := by rw [leftL_len ec, el0]
      obtain ⟨w', a', hd', W, bt⟩ := back_turn (h := h) (J := J) (fd := fd) (p := q) (L := leftL lgs cs) all (by omega) nb eL (mk0 cs ec) (sm0 cs ec) (by omega) (some (.tup (lgs.map tN))) (some (dN t)) w a hd none rfl
      have k1 : 1000 - t = (1000 - (t + 1)) + 1 := by omega
      rw [k1, bwd_step fd ec el0 le] at eb
      cases hs : stepB ms N (leftL lgs cs) q with
      | none =>
        rw [hs] at bt eb
        exact ⟨_, _, _, rfl, .inr ⟨bt, leftL lgs cs, fd, q, J ++ [W], some (dN t), w', a', hd', rfl, rfl, eL, eb⟩⟩
      | some x =>
        obtain ⟨i, q'⟩ := x
        rw [hs] at bt eb
        obtain ⟨w1, w2, _, _, xx, w5, _⟩ := way_of_step (mk0 cs ec) hs
        have hi : i < lgs.length := by omega
        have g1 : lgs[i]? = some (lgs.getD i []) := getD_get hi
        have g2 : cs[i]? = some (cs.getD i 0) := getD_get (by omega)
        have cl := le i _ _ g2 g1
        have nz : cs.getD i 0 ≠ 0 := fun z => by
          have gl := leftL_get g1 g2
          rw [z, List.take_zero] at gl
          rw [List.getD_eq_getElem?_getD, gl] at w5
          cases w5
        have sd := sum_dec nz
        dsimp only at bt eb
        rw [← leftL_set ec hi cl] at bt
        refine ⟨_, _, _, rfl, .inl ⟨.inl bt, cs.set i (cs.getD i 0 - 1), fd ++ [i], q', J ++ [W], some (dN t), w', a', hd', rfl, rfl, by rw [List.length_set]; exact ec, fun j c lg e1 e2 => ?_, by omega, w2, by rw [List.length_append]; simp; omega, eb⟩⟩
        by_cases hj : i = j
        · subst hj
          rw [List.getElem?_set_self (by omega)] at e1
          cases e1
          rw [g1] at e2
          cases e2
          omega
        · rw [List.getElem?_set_ne hj] at e1
          exact le j c lg e1 e2)
  have fin : ∃ (L : List (List Nat)) (fd : List Nat) (q : Nat) (J : CH) (tv w a hd : Option D), s' = [some (movD ms N), some (dN ms.length), some (dN q), some (.tup (lgs.map tN)), tv, some (celR h ms.length), some (.cell (h.length + ms.length)), w, a, hd, none] ∧ h' = h ++ bkT L fd J ∧ L.length = ms.length ∧ bwd ms N lgs 1000 p (lgs.map List.length) [] = (fd, q) := by
    rcases res with ⟨cs, fd, q, J, tv, w, a, hd, es, eh, ec, le, su, hq, fl, eb⟩ | r
    · rw [range_len1] at su eb
      exact ⟨leftL lgs cs, fd, q, J, tv, w, a, hd, es, eh, by rw [leftL_len ec, el0], by rw [eb, bwd_stop _ _ _ (by omega)]⟩
    · exact r
  obtain ⟨L, fd, q, J, tv, wv, a, hd, rfl, rfl, eL, eb⟩ := fin
  rw [eb]
  have w2 : lp__law_back_2 [some (movD ms N), some (dN ms.length), some (dN p), some (.tup (lgs.map tN)), none, some (celR h ms.length), some (.cell (h.length + ms.length)), none, none, none, none] (h ++ bkT lgs [] []) = _ := w
  have al : (h ++ cL lgs).length = h.length + ms.length := by rw [List.length_append]; simp [el0]
  have ac : h ++ cL lgs ++ [.lst []] = h ++ bkT lgs [] [] := by simp [bkT]
  have lo2 := lsOf_off (h := h) (bk_F eL fd J)
  refine cut_rt (j := bkT L fd J) (hh := h) ?_ rfl ?_ bl
  · have sd : startD 11 [movD ms N, dN ms.length, dN p, .tup (lgs.map tN)] = [some (movD ms N), some (dN ms.length), some (dN p), some (.tup (lgs.map tN)), none, none, none, none, none, none, none] := rfl
    rw [sd]
    unfold m__law_back
    have par : sPar 5 6 (mCons (lc__law_back_0) (mCons (mLstC mNil) mNil)) [some (movD ms N), some (dN ms.length), some (dN p), some (.tup (lgs.map tN)), none, none, none, none, none, none, none] h = .nx [some (movD ms N), some (dN ms.length), some (dN p), some (.tup (lgs.map tN)), none, some (celR h ms.length), some (.cell (h.length + ms.length)), none, none, none, none] (h ++ bkT lgs [] []) := by
      simp only [sPar, lc0, al, ac, if_pos (two_ok (n := 0) (by decide)), startD, List.map_cons, List.map_nil, List.length_cons, List.length_nil, List.replicate_succ, List.replicate_zero, List.cons_append, List.nil_append, List.append_nil, sSeq, sNext, sAsg, sExpr, sRet, sRetN, sIf, sPar, sAug, sFor, sNo, sSetF, RE.bind, RE.bindA, RA.bindA, RA.bind, RE.bindS, RS.bind, lift, mVar, mC, mBin, mUn, mCB, mCons, mNil, mTup, mLst, mLstC, mChain, mAnd, mOr, mNot, mIf, mTru, mCall, mFld, ar, gN, gNils, gConss, gT, List.getElem?_cons_zero, List.getElem?_cons_succ, List.set_cons_zero, List.set_cons_succ, fEqD_int, fNeD_int, fAdd_int, fSub_int, fLt_int, fLe_int, fGt_int, fGe_int, Nat.reduceSub, RSrc.bindS, RSrc.bind, RE.src, RA.src, iSeq, iEnum', Src.items, Nat.reduceAdd, reduceIte]
    rw [seq_nx par, seq_nx w2]
    have m1 : (0 : Int) - 1 = -1 := rfl
    have ct : ∀ (H : CH) (l : List D), cTuple H [.lst l] = some (.tup l) := fun H l => rfl
    simp only [mBack, lo2, fSub_int, m1, if_true, ct, Option.map_some, if_pos (two_ok (n := 2) (by decide)), startD, List.map_cons, List.map_nil, List.length_cons, List.length_nil, List.replicate_succ, List.replicate_zero, List.cons_append, List.nil_append, List.append_nil, sSeq, sNext, sAsg, sExpr, sRet, sRetN, sIf, sPar, sAug, sFor, sNo, sSetF, RE.bind, RE.bindA, RA.bindA, RA.bind, RE.bindS, RS.bind, lift, mVar, mC, mBin, mUn, mCB, mCons, mNil, mTup, mLst, mLstC, mChain, mAnd, mOr, mNot, mIf, mTru, mCall, mFld, ar, gN, gNils, gConss, gT, List.getElem?_cons_zero, List.getElem?_cons_succ, List.set_cons_zero, List.set_cons_succ, fEqD_int, fNeD_int, fAdd_int, fSub_int, fLt_int, fLe_int, fGt_int, fGe_int, Nat.reduceSub, RSrc.bindS, RSrc.bind, RE.src, RA.src, iSeq, iEnum', Src.items, Nat.reduceAdd, reduceIte]
    simp only [tN, List.map_reverse]
  · simp only [D.low, D.lows, Bool.and_true, lows_nats]
end K16

set_option Elab.async false
set_option linter.all false
set_option maxRecDepth 100000
namespace K16
open PySem PySem.Spec PyProof.Rows L2 Py
noncomputable def f__law_bent : MF := cutM 8 (m__law_bent f__law_take)
/-- a draw, with new things behind the boxes -/
theorem At.drawJ {h h' J : CH} {b n : Nat} (a : At h h' b) (n0 : 0 < n) (nb : n < 2 ^ 100) : ∃ (d : Nat) (h2 : CH), f__law_take [.cell b, dN n] (h' ++ J) = .ok (dN d) (h2 ++ J) ∧ At h h2 b ∧ d < n := by
  have hb := a.hb
  obtain ⟨g, r, e, o⟩ := a.bx h'[b] (List.getElem_mem hb)
  obtain ⟨d, g', r', z, o', l⟩ := take_ok (h := h' ++ J) (b := b) (n := n) (by rw [List.getElem?_append_left hb, List.getElem?_eq_getElem a.hb, e]) o n0 nb
  rw [List.set_append_left _ _ hb] at z
  exact ⟨d, _, z, ⟨a.bx.set o', by rw [List.length_set]; exact a.ln, by rw [List.length_set]; exact a.hb⟩, l⟩
def cutN (l : List Nat) (lo hi : Option Int) : List Nat := (l.drop (HT.sIx l.length 0 lo)).take (HT.sIx l.length l.length hi - HT.sIx l.length 0 lo)
theorem cutD_map (l : List Nat) (lo hi : Option Int) : Py.cutD (l.map dN) lo hi = (cutN l lo hi).map dN := by
  unfold Py.cutD cutN
  rw [List.length_map, ← List.map_drop, ← List.map_take]
theorem cutN_mem {l : List Nat} {lo hi : Option Int} {x : Nat} (h : x ∈ cutN l lo hi) : x ∈ l := List.mem_of_mem_drop (List.mem_of_mem_take h)
theorem cutN_len (l : List Nat) (lo hi : Option Int) : (cutN l lo hi).length ≤ l.length := by
  unfold cutN
  rw [List.length_take, List.length_drop]
  omega
abbrev lN (l : List Nat) : D := .lst (l.map dN)
theorem fSl_lst (h : CH) (l : List Nat) (lo hi : Option Int) : fSl h (lN l) lo hi = some (lN (cutN l lo hi)) := by
  simp only [fSl, lstOf, Option.map_some, cutD_map]
theorem fAdd_lst (h : CH) {a b : List Nat} (sz : a.length + b.length ≤ 100000) : fAdd h (lN a) (lN b) = some (lN (a ++ b)) := by
  have c : (a.map dN).length + (b.map dN).length ≤ sizeLine := by rw [List.length_map, List.length_map]; exact sz_of sz
  simp only [fAdd, fOr, fInt, fCatT, fCatL, lstOf, if_pos c]
  rw [lN, List.map_append]
theorem cLen_lst (h : CH) (a : List Nat) : cLen h [lN a] = some (dN a.length) := by
  simp only [cLen, seqOf, lstOf, Option.map_some, List.length_map]
theorem eq_nilL (h : CH) {a : List Nat} (sm : ∀ x ∈ a, x < 1000000) : fNeD h (lN a) (.lst []) = some (.bl (!a.isEmpty)) := by
  have it := itD_nats (k := 7) sm
  rw [List.all_eq_true] at it
  obtain ⟨ps, e2, q⟩ := nices (f := toPy h 8) (k := 8) fun d m => it_nice h 8 d (it d m)
  have s1 := shaped_lst q
  have s2 : SeqAt.shaped (.list []) = true := by simp [SeqAt.shaped, PyData.canLay0, PyData.depth, PyData.canLayAll0, PyData.depthAll]
  have t1 : toPy h 9 (lN a) = some (.list ps) := by rw [toPy_lst, e2]; rfl
  have t2 : toPy h 9 (.lst []) = some (.list []) := toPy_nil
  simp only [fNeD, eqD, t1, t2, s1, s2, and_self, if_true, Option.map_some]
  cases a with
  | nil =>
    unfold mapOpt at e2
    cases e2
    simp [PyData.eqv, PyData.eqvAll]
  | cons x a =>
    rw [List.map_cons] at e2
    unfold mapOpt at e2
    split at e2
    · split at e2
      · cases e2
        simp [PyData.eqv, PyData.eqvAll]
      · cases e2
    · cases e2
/-- what a log may become -/
def bentR (ms : List Nat) (lgs lgs' : List (List Nat)) : Prop := lgs'.length = lgs.length ∧ okLogs ms lgs' ∧ ∀ (i : Nat) (a b : List Nat), lgs[i]? = some a → lgs'[i]? = some b → b.length ≤ 2 * a.length + 1
theorem bent_set {ms : List Nat} {lgs : List (List Nat)} {j m : Nat} {l : List Nat} (ok : okLogs ms lgs) (em : ms[j]? = some m) (hl : ∀ x ∈ l, x < m) (ll : l.length ≤ 2 * (lgs.getD j []).length + 1) (sz : ∀ lg ∈ lgs, lg.length ≤ 1000) : bentR ms lgs (lgs.set j l) := by
  have hj : j < lgs.length := by rw [ok.1]; exact (List.getElem?_eq_some_iff.mp em).1
  have gj : lgs[j]? = some (lgs.getD j []) := getD_get hj
  refine ⟨by rw [List.length_set], ⟨by rw [List.length_set]; exact ok.1, fun lg mlg => ?_, fun i lg m' e1 e2 => ?_⟩, fun i a b e1 e2 => ?_⟩
  · rcases List.mem_or_eq_of_mem_set mlg with q | q
    · exact ok.2.1 lg q
    · rw [q]
      have := sz _ (List.mem_of_getElem? gj)
      omega
  · by_cases hij : j = i
    · subst hij
      rw [List.getElem?_set_self hj] at e1
      cases e1
      rw [em] at e2
      cases e2
      exact hl
    · rw [List.getElem?_set_ne hij] at e1
      exact ok.2.2 i lg m' e1 e2
  · by_cases hij : j = i
    · subst hij
      rw [List.getElem?_set_self hj] at e2
      cases e2
      rw [gj] at e1
      cases e1
      exact ll
    · rw [List.getElem?_set_ne hij, e1] at e2
      cases e2
      omega
/-- the end: the list of lists becomes a tuple of tuples -/
theorem bent_tup {h' J : CH} {lgs' : List (List Nat)} (c : Nat) (ec : (h' ++ J)[c]? = some (.lst (lgs'.map lN))) (hn : lgs'.length ≤ 1000) (a b d e f g i : Option D) :
    lc__law_bent_2 f__law_take [a, b, d, e, some (.cell c), f, g, i] (h' ++ J) = .ok (.lst (lgs'.map tN)) (h' ++ J) := by
  refine mLc_all (x := .live c) lN tN ?_ ?_ (sz_of hn) fun lg mlg => ⟨_, rfl, ?_⟩
  · simp only [srcOf, ec, startD, List.map_cons, List.map_nil, List.length_cons, List.length_nil, List.replicate_succ, List.replicate_zero, List.cons_append, List.nil_append, List.append_nil, sSeq, sNext, sAsg, sExpr, sRet, sRetN, sIf, sPar, sAug, sFor, sNo, sSetF, RE.bind, RE.bindA, RA.bindA, RA.bind, RE.bindS, RS.bind, lift, mVar, mC, mBin, mUn, mCB, mCons, mNil, mTup, mLst, mLstC, mChain, mAnd, mOr, mNot, mIf, mTru, mCall, mFld, ar, gN, gNils, gConss, gT, List.getElem?_cons_zero, List.getElem?_cons_succ, List.set_cons_zero, List.set_cons_succ, fEqD_int, fNeD_int, fAdd_int, fSub_int, fLt_int, fLe_int, fGt_int, fGe_int, Nat.reduceSub, RSrc.bindS, RSrc.bind, RE.src, RA.src, iSeq, iEnum', Src.items, Nat.reduceAdd, reduceIte]
  · simp only [Src.items, lstOf, ec]
  · simp only [wipeS, cTuple, lsOf, lstOf, Option.map_some, startD, List.map_cons, List.map_nil, List.length_cons, List.length_nil, List.replicate_succ, List.replicate_zero, List.cons_append, List.nil_append, List.append_nil, sSeq, sNext, sAsg, sExpr, sRet, sRetN, sIf, sPar, sAug, sFor, sNo, sSetF, RE.bind, RE.bindA, RA.bindA, RA.bind, RE.bindS, RS.bind, lift, mVar, mC, mBin, mUn, mCB, mCons, mNil, mTup, mLst, mLstC, mChain, mAnd, mOr, mNot, mIf, mTru, mCall, mFld, ar, gN, gNils, gConss, gT, List.getElem?_cons_zero, List.getElem?_cons_succ, List.set_cons_zero, List.set_cons_succ, fEqD_int, fNeD_int, fAdd_int, fSub_int, fLt_int, fLe_int, fGt_int, fGe_int, Nat.reduceSub, RSrc.bindS, RSrc.bind, RE.src, RA.src, iSeq, iEnum', Src.items, Nat.reduceAdd, reduceIte]
theorem ws_cut : ∀ {lgs : List (List Nat)} {ws : List D}, ws.length = lgs.length → (∀ (j : Nat) (y : List Nat) (v : D), lgs[j]? = some y → ws[j]? = some v → ∃ n : Int, v = lN (cutN y (some n) none)) →
    ∃ lgs' : List (List Nat), ws = lgs'.map lN ∧ lgs'.length = lgs.length ∧ ∀ (i : Nat) (a b : List Nat), lgs[i]? = some a → lgs'[i]? = some b → ∃ n : Int, b = cutN a (some n) none
  | [], ws, l, _ => ⟨[], by
      cases ws with
      | nil => rfl
      | cons _ _ => simp at l, rfl, fun i a b e => by simp at e⟩
  | y :: lgs, [], l, _ => by simp at l
  | y :: lgs, v :: ws, l, h => by
    obtain ⟨n, e⟩ := h 0 y v rfl rfl
    obtain ⟨r, e1, e2, e3⟩ := ws_cut (lgs := lgs) (ws := ws) (by simpa using l) fun j y v a b => h (j + 1) y v (by simpa using a) (by simpa using b)
    refine ⟨cutN y (some n) none :: r, by rw [e, e1]; rfl, by simp [e2], fun i a b ea eb => ?_⟩
    cases i with
    | zero => simp at ea eb; exact ⟨n, by rw [← ea, ← eb]⟩
    | succ i => exact e3 i a b (by simpa using ea) (by simpa using eb)
theorem cut_bent {ms : List Nat} {lgs lgs' : List (List Nat)} (ok : okLogs ms lgs) (ll : lgs'.length = lgs.length) (lr : ∀ (i : Nat) (a b : List Nat), lgs[i]? = some a → lgs'[i]? = some b → ∃ n : Int, b = cutN a (some n) none) : bentR ms lgs lgs' := by
  refine ⟨ll, ⟨ll.trans ok.1, fun lg mlg => ?_, fun i lg m e1 e2 => ?_⟩, fun i a b e1 e2 => ?_⟩
  · obtain ⟨i, hi, rfl⟩ := List.mem_iff_getElem.mp mlg
    have gi : lgs[i]? = some lgs[i] := List.getElem?_eq_getElem (by omega)
    obtain ⟨n, e⟩ := lr i _ _ gi (List.getElem?_eq_getElem hi)
    rw [e]
    exact Nat.le_trans (cutN_len _ _ _) (ok.2.1 _ (List.mem_of_getElem? gi))
  · have hi := (List.getElem?_eq_some_iff.mp e1).1
    have gi : lgs[i]? = some lgs[i] := List.getElem?_eq_getElem (by omega)
    obtain ⟨n, e⟩ := lr i _ _ gi e1
    intro x mx
    rw [e] at mx
    exact ok.2.2 i _ m gi e2 x (cutN_mem mx)
  · obtain ⟨n, e⟩ := lr i a b e1 e2
    rw [e]
    have := cutN_len a (some n) none
    omega
theorem bent_ok {ms : List Nat} {lgs : List (List Nat)} {h : CH} {b : Nat} (a0 : At h h b) (cm : okMs ms = true) (ok : okLogs ms lgs) (sz : ∀ lg ∈ lgs, lg.length ≤ 1000) :
    ∃ (lgs' : List (List Nat)) (h2 : CH), f__law_bent [.cell b, tN ms, .tup (lgs.map tN)] h = .ok (.tup (lgs'.map tN)) h2 ∧ At h h2 b ∧ bentR ms lgs lgs' := by
  have hn := okMs_len cm
  have hm := okMs_mem cm
  have el := ok.1
  have hb := a0.hb
  have lc0 : lc__law_bent_0 f__law_take [some (.cell b), some (tN ms), some (.tup (lgs.map tN)), none, none, none, none, none] h = .ok (.cell h.length) (h ++ [.lst (lgs.map lN)]) := by
    have z := mLcC_all (mi := iSeq (mVar 2)) (gm := gN 7) (me := mCB cList (mCons (mVar 7) mNil)) (vs := [7]) (s := [some (.cell b), some (tN ms), some (.tup (lgs.map tN)), none, none, none, none, none]) (h := h) (h1 := h) (x := .fix (lgs.map tN)) tN lN
      (by simp only [srcOf, startD, List.map_cons, List.map_nil, List.length_cons, List.length_nil, List.replicate_succ, List.replicate_zero, List.cons_append, List.nil_append, List.append_nil, sSeq, sNext, sAsg, sExpr, sRet, sRetN, sIf, sPar, sAug, sFor, sNo, sSetF, RE.bind, RE.bindA, RA.bindA, RA.bind, RE.bindS, RS.bind, lift, mVar, mC, mBin, mUn, mCB, mCons, mNil, mTup, mLst, mLstC, mChain, mAnd, mOr, mNot, mIf, mTru, mCall, mFld, ar, gN, gNils, gConss, gT, List.getElem?_cons_zero, List.getElem?_cons_succ, List.set_cons_zero, List.set_cons_succ, fEqD_int, fNeD_int, fAdd_int, fSub_int, fLt_int, fLe_int, fGt_int, fGe_int, Nat.reduceSub, RSrc.bindS, RSrc.bind, RE.src, RA.src, iSeq, iEnum', Src.items, Nat.reduceAdd, reduceIte]) rfl (sz_of (n := lgs.length) (m := 8) (by omega)) fun lg mg => ⟨_, rfl, by simp only [wipeS, cList, seqOf, Option.map_some, startD, List.map_cons, List.map_nil, List.length_cons, List.length_nil, List.replicate_succ, List.replicate_zero, List.cons_append, List.nil_append, List.append_nil, sSeq, sNext, sAsg, sExpr, sRet, sRetN, sIf, sPar, sAug, sFor, sNo, sSetF, RE.bind, RE.bindA, RA.bindA, RA.bind, RE.bindS, RS.bind, lift, mVar, mC, mBin, mUn, mCB, mCons, mNil, mTup, mLst, mLstC, mChain, mAnd, mOr, mNot, mIf, mTru, mCall, mFld, ar, gN, gNils, gConss, gT, List.getElem?_cons_zero, List.getElem?_cons_succ, List.set_cons_zero, List.set_cons_succ, fEqD_int, fNeD_int, fAdd_int, fSub_int, fLt_int, fLe_int, fGt_int, fGe_int, Nat.reduceSub, RSrc.bindS, RSrc.bind, RE.src, RA.src, iSeq, iEnum', Src.items, Nat.reduceAdd, reduceIte]⟩
    exact z
  obtain ⟨j, h1, z1, a1, jl⟩ := a0.drawJ (J := [.lst (lgs.map lN)]) (n := lgs.length) (by omega) (Nat.lt_of_le_of_lt (by omega : lgs.length ≤ 8) (by decide))
  obtain ⟨w, h2, z2, a2, wl⟩ := a1.drawJ (J := [.lst (lgs.map lN)]) (n := 4) (by decide) (by decide)
  have z2' : f__law_take [.cell b, .int 4] (h1 ++ [.lst (lgs.map lN)]) = .ok (dN w) (h2 ++ [.lst (lgs.map lN)]) := z2
  have gj : lgs[j]? = some (lgs.getD j []) := getD_get jl
  have em : ms[j]? = some ms[j] := List.getElem?_eq_getElem (by omega)
  generalize ms[j] = m at em
  have hmj := hm m (List.mem_of_getElem? em)
  have mk := ok.2.2 j _ m gj em
  have zj := sz _ (List.mem_of_getElem? gj)
  generalize hlg : lgs.getD j [] = lg at gj mk zj
  have cl : cLen h1 [.tup (lgs.map tN)] = some (dN lgs.length) := by simp only [cLen, seqOf, Option.map_some, List.length_map]
  have cl0 : ∀ H : CH, cLen H [.tup (lgs.map tN)] = some (dN lgs.length) := fun H => by simp only [cLen, seqOf, Option.map_some, List.length_map]
  -- what stands at the cell, whatever the boxes hold
  have ixm : ∀ H : CH, fIx H (tN ms) (dN j) = some (dN m) := fun H => fIx_tup (by rw [List.getElem?_map, em]; rfl)
  have hln : ∀ H : CH, At h H b → H.length = h.length := fun H a => a.ln
  have cel : ∀ (H : CH) (x : List (List Nat)), At h H b → (H ++ [Cell.lst (x.map lN)])[h.length]? = some (.lst (x.map lN)) := fun H x a => by
    rw [← a.ln, List.getElem?_append_right (Nat.le_refl _)]
    simp
  have ixf : ∀ H : CH, At h H b → fIx (H ++ [.lst (lgs.map lN)]) (.cell h.length) (dN j) = some (lN lg) := fun H a => by
    simp only [fIx, seqOf, lstOf, cel H lgs a]
    exact atI_nat (by rw [List.getElem?_map, gj]; rfl)
  have put : ∀ (H : CH) (l : List Nat), At h H b → putAt (H ++ [.lst (lgs.map lN)]) (.cell h.length) (dN j) (lN l) = some (H ++ [.lst ((lgs.set j l).map lN)]) := fun H l a => by
    have g0 : ([Cell.lst (lgs.map lN)] : CH)[0]? = some (.lst (lgs.map lN)) := rfl
    have := putAt_off (h := H) (d := lN l) g0 (show j < (lgs.map lN).length by rw [List.length_map]; exact jl)
    rw [Nat.add_zero, a.ln] at this
    rw [this, List.map_set]
    rfl
  -- the end
  have fin : ∀ (H J : CH) (c : Nat) (lgs' : List (List Nat)) (q r : Option D), (H ++ J)[c]? = some (.lst (lgs'.map lN)) → At h H b → bentR ms lgs lgs' → m__law_bent f__law_take [some (.cell b), some (tN ms), some (.tup (lgs.map tN)), none, none, none, none, none] h = (sSeq (sRet (mCB cTuple (mCons (lc__law_bent_2 f__law_take) mNil))) sNext) [some (.cell b), some (tN ms), some (.tup (lgs.map tN)), q, some (.cell c), some (dN j), r, none] (H ++ J) →
      ∃ (lgs' : List (List Nat)) (h2 : CH), f__law_bent [.cell b, tN ms, .tup (lgs.map tN)] h = .ok (.tup (lgs'.map tN)) h2 ∧ At h h2 b ∧ bentR ms lgs lgs' := by
    intro H J c lgs' q r ec a br e
    have tu := bent_tup (h' := H) (J := J) c ec (by rw [br.1]; omega) (some (.cell b)) (some (tN ms)) (some (.tup (lgs.map tN))) q (some (dN j)) r none
    refine ⟨lgs', H, cut_rt (j := J) (hh := H) ?_ a.ln (low_logs lgs') a.bx.low, a, br⟩
    have sd : startD 8 [.cell b, tN ms, .tup (lgs.map tN)] = [some (.cell b), some (tN ms), some (.tup (lgs.map tN)), none, none, none, none, none] := rfl
    rw [sd, e]
    simp only [tu, cTuple, lsOf, lstOf, Option.map_some, startD, List.map_cons, List.map_nil, List.length_cons, List.length_nil, List.replicate_succ, List.replicate_zero, List.cons_append, List.nil_append, List.append_nil, sSeq, sNext, sAsg, sExpr, sRet, sRetN, sIf, sPar, sAug, sFor, sNo, sSetF, RE.bind, RE.bindA, RA.bindA, RA.bind, RE.bindS, RS.bind, lift, mVar, mC, mBin, mUn, mCB, mCons, mNil, mTup, mLst, mLstC, mChain, mAnd, mOr, mNot, mIf, mTru, mCall, mFld, ar, gN, gNils, gConss, gT, List.getElem?_cons_zero, List.getElem?_cons_succ, List.set_cons_zero, List.set_cons_succ, fEqD_int, fNeD_int, fAdd_int, fSub_int, fLt_int, fLe_int, fGt_int, fGe_int, Nat.reduceSub, RSrc.bindS, RSrc.bind, RE.src, RA.src, iSeq, iEnum', Src.items, Nat.reduceAdd, reduceIte]
  have two0 := two_ok (n := 0) (by decide)
  have two1 := two_ok (n := 1) (by decide)
  have sm : ∀ x ∈ lg, x < 1000000 := fun x mx => by have := mk x mx; omega
  have nel := eq_nilL (h2 ++ [.lst (lgs.map lN)]) sm
  -- one more
  have more : ∃ (x : Nat) (h3 : CH), f__law_take [.cell b, dN m] (h2 ++ [.lst (lgs.map lN)]) = .ok (dN x) (h3 ++ [.lst (lgs.map lN)]) ∧ At h h3 b ∧ x < m := a2.drawJ (by omega) (Nat.lt_of_le_of_lt (by omega : m ≤ 60) (by decide))
  have cat : ∀ (H : CH) (x : Nat), fAdd H (lN lg) (.lst [dN x]) = some (lN (lg ++ [x])) := fun H x => fAdd_lst H (b := [x]) (by simp; omega)
  have brx : ∀ x, x < m → bentR ms lgs (lgs.set j (lg ++ [x])) := fun x hx => bent_set ok em (fun y my => by
    rcases List.mem_append.mp my with q | q
    · exact mk y q
    · rw [List.mem_singleton.mp q]; exact hx) (by rw [hlg, List.length_append]; simp; omega) sz
  have d2 : decide ((w : Int) = 0) = decide (w = 0) ∧ decide ((w : Int) = 1) = decide (w = 1) ∧ decide ((w : Int) = 2) = decide (w = 2) := ⟨int_eq_iff (b := 0), int_eq_iff (b := 1), int_eq_iff (b := 2)⟩
  obtain ⟨d0, d1, d2⟩ := d2
  by_cases w0 : w = 0
  · by_cases lz : lg = []
    · obtain ⟨x, h3, z3, a3, hx⟩ := more
      refine fin h3 [.lst ((lgs.set j (lg ++ [x])).map lN)] h.length _ (some (dN w)) none (cel _ _ a3) a3 (brx x hx) ?_
      have lzb : lg.isEmpty = true := by rw [lz]; rfl
      have d0 := d0.trans (decide_eq_true w0)
      have d1 := d1.trans (decide_eq_false (show ¬ w = 1 by omega))
      have d2 := d2.trans (decide_eq_false (show ¬ w = 2 by omega))
      rw [lzb] at nel
      simp only [m__law_bent, sPar, lc0, cl0, z1, z2', d0, ixf h2 a2, two0, two1, if_true, nel, Bool.not_true, d1, d2, z3, ixm, cat, sPut, put h3 _ a3, startD, List.map_cons, List.map_nil, List.length_cons, List.length_nil, List.replicate_succ, List.replicate_zero, List.cons_append, List.nil_append, List.append_nil, sSeq, sNext, sAsg, sExpr, sRet, sRetN, sIf, sPar, sAug, sFor, sNo, sSetF, RE.bind, RE.bindA, RA.bindA, RA.bind, RE.bindS, RS.bind, lift, mVar, mC, mBin, mUn, mCB, mCons, mNil, mTup, mLst, mLstC, mChain, mAnd, mOr, mNot, mIf, mTru, mCall, mFld, ar, gN, gNils, gConss, gT, List.getElem?_cons_zero, List.getElem?_cons_succ, List.set_cons_zero, List.set_cons_succ, fEqD_int, fNeD_int, fAdd_int, fSub_int, fLt_int, fLe_int, fGt_int, fGe_int, Nat.reduceSub, RSrc.bindS, RSrc.bind, RE.src, RA.src, iSeq, iEnum', Src.items, Nat.reduceAdd, reduceIte]
    · have lzb : lg.isEmpty = false := by
        cases lg with
        | nil => exact absurd rfl lz
        | cons _ _ => rfl
      have lp : 0 < lg.length := by
        cases lg with
        | nil => exact absurd rfl lz
        | cons _ _ => simp
      obtain ⟨sp, h3, z3, a3, hsp⟩ := a2.drawJ (J := [.lst (lgs.map lN)]) (n := lg.length) lp (Nat.lt_of_le_of_lt zj (by decide))
      obtain ⟨x, h4, z4, a4, hx⟩ := a3.drawJ (J := [.lst (lgs.map lN)]) (n := m) (by omega) (Nat.lt_of_le_of_lt (by omega : m ≤ 60) (by decide))
      have k1 := cutN_len lg none (some (sp : Int))
      have k2 := cutN_len lg (some ((sp : Int) + 1)) none
      have f1 : ∀ H : CH, fAdd H (lN (cutN lg none (some (sp : Int)))) (.lst [dN x]) = some (lN (cutN lg none (some (sp : Int)) ++ [x])) := fun H => fAdd_lst H (b := [x]) (by simp; omega)
      have f2 : ∀ H : CH, fAdd H (lN (cutN lg none (some (sp : Int)) ++ [x])) (lN (cutN lg (some ((sp : Int) + 1)) none)) = some (lN (cutN lg none (some (sp : Int)) ++ [x] ++ cutN lg (some ((sp : Int) + 1)) none)) := fun H => fAdd_lst H (by rw [List.length_append]; simp; omega)
      have br := bent_set (l := cutN lg none (some (sp : Int)) ++ [x] ++ cutN lg (some ((sp : Int) + 1)) none) ok em (fun y my => by
        rcases List.mem_append.mp my with q | q
        · rcases List.mem_append.mp q with q | q
          · exact mk y (cutN_mem q)
          · rw [List.mem_singleton.mp q]; exact hx
        · exact mk y (cutN_mem q)) (by rw [hlg, List.length_append, List.length_append]; simp; omega) sz
      refine fin h4 [.lst ((lgs.set j (cutN lg none (some (sp : Int)) ++ [x] ++ cutN lg (some ((sp : Int) + 1)) none)).map lN)] h.length _ (some (dN w)) (some (dN sp)) (cel _ _ a4) a4 br ?_
      have d0 := d0.trans (decide_eq_true w0)
      rw [lzb] at nel
      simp only [m__law_bent, sPar, lc0, cl0, z1, z2', d0, ixf h2 a2, ixf h3 a3, ixf h4 a4, two0, two1, if_true, nel, Bool.not_false, cLen_lst, z3, z4, ixm, mSl, mPart, partOf, fSl_lst, sPut, f1, f2, put h4 _ a4, startD, List.map_cons, List.map_nil, List.length_cons, List.length_nil, List.replicate_succ, List.replicate_zero, List.cons_append, List.nil_append, List.append_nil, sSeq, sNext, sAsg, sExpr, sRet, sRetN, sIf, sPar, sAug, sFor, sNo, sSetF, RE.bind, RE.bindA, RA.bindA, RA.bind, RE.bindS, RS.bind, lift, mVar, mC, mBin, mUn, mCB, mCons, mNil, mTup, mLst, mLstC, mChain, mAnd, mOr, mNot, mIf, mTru, mCall, mFld, ar, gN, gNils, gConss, gT, List.getElem?_cons_zero, List.getElem?_cons_succ, List.set_cons_zero, List.set_cons_succ, fEqD_int, fNeD_int, fAdd_int, fSub_int, fLt_int, fLe_int, fGt_int, fGe_int, Nat.reduceSub, RSrc.bindS, RSrc.bind, RE.src, RA.src, iSeq, iEnum', Src.items, Nat.reduceAdd, reduceIte]
  · have d0 := d0.trans (decide_eq_false w0)
    by_cases w1 : w = 1
    · obtain ⟨t, h3, z3, a3, ht⟩ := a2.drawJ (J := [.lst (lgs.map lN)]) (n := 2) (by decide) (by decide)
      have z3' : f__law_take [.cell b, .int 2] (h2 ++ [.lst (lgs.map lN)]) = .ok (dN t) (h3 ++ [.lst (lgs.map lN)]) := z3
      have k1 := cutN_len lg (some (1 + (t : Int))) none
      have br := bent_set (l := cutN lg (some (1 + (t : Int))) none) ok em (fun y my => mk y (cutN_mem my)) (by rw [hlg]; omega) sz
      refine fin h3 [.lst ((lgs.set j (cutN lg (some (1 + (t : Int))) none)).map lN)] h.length _ (some (dN w)) none (cel _ _ a3) a3 br ?_
      have d1 := d1.trans (decide_eq_true w1)
      simp only [m__law_bent, sPar, lc0, cl0, z1, z2', d0, d1, ixf h2 a2, two0, two1, if_true, z3', mSl, mPart, partOf, fSl_lst, sPut, put h3 _ a3, startD, List.map_cons, List.map_nil, List.length_cons, List.length_nil, List.replicate_succ, List.replicate_zero, List.cons_append, List.nil_append, List.append_nil, sSeq, sNext, sAsg, sExpr, sRet, sRetN, sIf, sPar, sAug, sFor, sNo, sSetF, RE.bind, RE.bindA, RA.bindA, RA.bind, RE.bindS, RS.bind, lift, mVar, mC, mBin, mUn, mCB, mCons, mNil, mTup, mLst, mLstC, mChain, mAnd, mOr, mNot, mIf, mTru, mCall, mFld, ar, gN, gNils, gConss, gT, List.getElem?_cons_zero, List.getElem?_cons_succ, List.set_cons_zero, List.set_cons_succ, fEqD_int, fNeD_int, fAdd_int, fSub_int, fLt_int, fLe_int, fGt_int, fGe_int, Nat.reduceSub, RSrc.bindS, RSrc.bind, RE.src, RA.src, iSeq, iEnum', Src.items, Nat.reduceAdd, reduceIte]
    · have d1 := d1.trans (decide_eq_false w1)
      by_cases w2 : w = 2
      · have d2 := d2.trans (decide_eq_true w2)
        obtain ⟨ws, hq, zc, ⟨h3, ehq, a3⟩, wl, wr⟩ := mLcC_rel (mi := iSeq (mVar 4)) (gm := gN 7) (me := mSl (mVar 7) (mPart (mCall 2 f__law_take [] (mCons (mVar 0) (mCons (mBin fAdd (mCB cLen (mCons (mVar 7) mNil)) (mC (.int 1))) mNil)))) (mC .non)) (vs := [7])
          (s := [some (.cell b), some (tN ms), some (.tup (lgs.map tN)), some (dN w), some (.cell h.length), some (dN j), none, none]) (h := h2 ++ [.lst (lgs.map lN)]) (h1 := h2 ++ [.lst (lgs.map lN)]) (x := .live h.length) (xs := lgs) (c := lN)
          (fun H => ∃ h3, H = h3 ++ [.lst (lgs.map lN)] ∧ At h h3 b) (fun lg v => ∃ n : Int, v = lN (cutN lg (some n) none)) (by simp only [srcOf, cel h2 lgs a2, startD, List.map_cons, List.map_nil, List.length_cons, List.length_nil, List.replicate_succ, List.replicate_zero, List.cons_append, List.nil_append, List.append_nil, sSeq, sNext, sAsg, sExpr, sRet, sRetN, sIf, sPar, sAug, sFor, sNo, sSetF, RE.bind, RE.bindA, RA.bindA, RA.bind, RE.bindS, RS.bind, lift, mVar, mC, mBin, mUn, mCB, mCons, mNil, mTup, mLst, mLstC, mChain, mAnd, mOr, mNot, mIf, mTru, mCall, mFld, ar, gN, gNils, gConss, gT, List.getElem?_cons_zero, List.getElem?_cons_succ, List.set_cons_zero, List.set_cons_succ, fEqD_int, fNeD_int, fAdd_int, fSub_int, fLt_int, fLe_int, fGt_int, fGe_int, Nat.reduceSub, RSrc.bindS, RSrc.bind, RE.src, RA.src, iSeq, iEnum', Src.items, Nat.reduceAdd, reduceIte]) ⟨h2, rfl, a2⟩ (fun H ⟨h3, e, a3⟩ => by
            subst e
            simp only [Src.items, lstOf, cel h3 lgs a3]) (sz_of (n := lgs.length) (m := 8) (by omega)) (fun lg H mlg ⟨h3, e, a3⟩ => by
            subst e
            have zlg := sz lg mlg
            obtain ⟨t, h4, z4, a4, ht⟩ := a3.drawJ (J := [.lst (lgs.map lN)]) (n := lg.length + 1) (by omega) (Nat.lt_of_le_of_lt (by omega : lg.length + 1 ≤ 1001) (by decide))
            have z4' : f__law_take [.cell b, .int ((lg.length : Int) + 1)] (h3 ++ [.lst (lgs.map lN)]) = .ok (dN t) (h4 ++ [.lst (lgs.map lN)]) := z4
            refine ⟨_, lN (cutN lg (some (t : Int)) none), h4 ++ [.lst (lgs.map lN)], rfl, ?_, ⟨h4, rfl, a4⟩, (t : Int), rfl⟩
            simp only [wipeS, cLen_lst, z4', mSl, mPart, partOf, fSl_lst, startD, List.map_cons, List.map_nil, List.length_cons, List.length_nil, List.replicate_succ, List.replicate_zero, List.cons_append, List.nil_append, List.append_nil, sSeq, sNext, sAsg, sExpr, sRet, sRetN, sIf, sPar, sAug, sFor, sNo, sSetF, RE.bind, RE.bindA, RA.bindA, RA.bind, RE.bindS, RS.bind, lift, mVar, mC, mBin, mUn, mCB, mCons, mNil, mTup, mLst, mLstC, mChain, mAnd, mOr, mNot, mIf, mTru, mCall, mFld, ar, gN, gNils, gConss, gT, List.getElem?_cons_zero, List.getElem?_cons_succ, List.set_cons_zero, List.set_cons_succ, fEqD_int, fNeD_int, fAdd_int, fSub_int, fLt_int, fLe_int, fGt_int, fGe_int, Nat.reduceSub, RSrc.bindS, RSrc.bind, RE.src, RA.src, iSeq, iEnum', Src.items, Nat.reduceAdd, reduceIte])
        subst ehq
        obtain ⟨lgs', rfl, ll, lr⟩ : ∃ lgs' : List (List Nat), ws = lgs'.map lN ∧ lgs'.length = lgs.length ∧ ∀ (i : Nat) (a b : List Nat), lgs[i]? = some a → lgs'[i]? = some b → ∃ n : Int, b = cutN a (some n) none := ws_cut wl wr
        have br : bentR ms lgs lgs' := cut_bent ok ll lr
        have hl3 : (h3 ++ [Cell.lst (lgs.map lN)]).length = h.length + 1 := by rw [List.length_append, a3.ln]; rfl
        rw [hl3] at zc
        have ec : (h3 ++ [Cell.lst (lgs.map lN), .lst (lgs'.map lN)])[h.length + 1]? = some (.lst (lgs'.map lN)) := by
          rw [← a3.ln, List.getElem?_append_right (by omega)]
          simp
        refine fin h3 [.lst (lgs.map lN), .lst (lgs'.map lN)] (h.length + 1) lgs' (some (dN w)) none ec a3 br ?_
        have ap : h3 ++ [Cell.lst (lgs.map lN)] ++ [.lst (lgs'.map lN)] = h3 ++ [.lst (lgs.map lN), .lst (lgs'.map lN)] := by simp
        rw [ap] at zc
        have zc' : lc__law_bent_1 f__law_take [some (.cell b), some (tN ms), some (.tup (lgs.map tN)), some (dN w), some (.cell h.length), some (dN j), none, none] (h2 ++ [.lst (lgs.map lN)]) = _ := zc
        simp only [m__law_bent, sPar, lc0, cl0, z1, z2', d0, ixf h2 a2, two0, two1, if_true, d1, d2, zc', startD, List.map_cons, List.map_nil, List.length_cons, List.length_nil, List.replicate_succ, List.replicate_zero, List.cons_append, List.nil_append, List.append_nil, sSeq, sNext, sAsg, sExpr, sRet, sRetN, sIf, sPar, sAug, sFor, sNo, sSetF, RE.bind, RE.bindA, RA.bindA, RA.bind, RE.bindS, RS.bind, lift, mVar, mC, mBin, mUn, mCB, mCons, mNil, mTup, mLst, mLstC, mChain, mAnd, mOr, mNot, mIf, mTru, mCall, mFld, ar, gN, gNils, gConss, gT, List.getElem?_cons_zero, List.getElem?_cons_succ, List.set_cons_zero, List.set_cons_succ, fEqD_int, fNeD_int, fAdd_int, fSub_int, fLt_int, fLe_int, fGt_int, fGe_int, Nat.reduceSub, RSrc.bindS, RSrc.bind, RE.src, RA.src, iSeq, iEnum', Src.items, Nat.reduceAdd, reduceIte]
      · have d2 := d2.trans (decide_eq_false w2)
        obtain ⟨x, h3, z3, a3, hx⟩ := more
        refine fin h3 [.lst ((lgs.set j (lg ++ [x])).map lN)] h.length _ (some (dN w)) none (cel _ _ a3) a3 (brx x hx) ?_
        simp only [m__law_bent, sPar, lc0, cl0, z1, z2', d0, ixf h2 a2, two0, two1, if_true, d1, d2, z3, ixm, cat, sPut, put h3 _ a3, startD, List.map_cons, List.map_nil, List.length_cons, List.length_nil, List.replicate_succ, List.replicate_zero, List.cons_append, List.nil_append, List.append_nil, sSeq, sNext, sAsg, sExpr, sRet, sRetN, sIf, sPar, sAug, sFor, sNo, sSetF, RE.bind, RE.bindA, RA.bindA, RA.bind, RE.bindS, RS.bind, lift, mVar, mC, mBin, mUn, mCB, mCons, mNil, mTup, mLst, mLstC, mChain, mAnd, mOr, mNot, mIf, mTru, mCall, mFld, ar, gN, gNils, gConss, gT, List.getElem?_cons_zero, List.getElem?_cons_succ, List.set_cons_zero, List.set_cons_succ, fEqD_int, fNeD_int, fAdd_int, fSub_int, fLt_int, fLe_int, fGt_int, fGe_int, Nat.reduceSub, RSrc.bindS, RSrc.bind, RE.src, RA.src, iSeq, iEnum', Src.items, Nat.reduceAdd, reduceIte]
end K16

set_option Elab.async false
set_option linter.all false
set_option maxRecDepth 100000
set_option exponentiation.threshold 10000
namespace K16
open PySem PySem.Spec PyProof.Rows L2 Py
/-! ### plain: what the logs of a story are -/
def lgsOf (ms : List Nat) (N : Nat) (st : List Nat) (p : Nat) : List (List Nat) := (fwd ms N st p (emp ms)).2
theorem fwd_ok {ms : List Nat} {N : Nat} (all : ∀ x ∈ ms, 0 < x) : ∀ (st : List Nat) (p : Nat) (L : List (List Nat)), (∀ i ∈ st, i < ms.length) → L.length = ms.length → (∀ (i : Nat) (lg : List Nat) (m : Nat), L[i]? = some lg → ms[i]? = some m → ∀ x ∈ lg, x < m) →
    ∀ (i : Nat) (lg : List Nat) (m : Nat), (fwd ms N st p L).2[i]? = some lg → ms[i]? = some m → ∀ x ∈ lg, x < m
  | [], p, L, _, _, h => h
  | k :: r, p, L, hs, el, h => by
    have hk := hs k List.mem_cons_self
    have em : ms[k]? = some ms[k] := List.getElem?_eq_getElem hk
    have gd : ms.getD k 1 = ms[k] := by rw [List.getD_eq_getElem?_getD, em]; rfl
    simp only [fwd]
    refine fwd_ok all r _ _ (fun i m => hs i (List.mem_cons_of_mem _ m)) (by rw [List.length_set]; exact el) fun i lg m e1 e2 x mx => ?_
    by_cases hi : k = i
    · subst hi
      rw [List.getElem?_set_self (by omega)] at e1
      cases e1
      rw [em] at e2
      cases e2
      rcases List.mem_append.mp mx with q | q
      · exact h k _ _ (getD_get (d := []) (by omega)) em x q
      · rw [List.mem_singleton.mp q, gd]
        exact Nat.mod_lt _ (all _ (List.getElem_mem hk))
    · rw [List.getElem?_set_ne hi] at e1
      exact h i lg m e1 e2 x mx
theorem sum_len_set {L : List (List Nat)} {k x : Nat} (hk : k < L.length) : ((L.set k (L.getD k [] ++ [x])).map List.length).sum = (L.map List.length).sum + 1 := by
  induction L generalizing k with
  | nil => simp at hk
  | cons l L ih =>
    cases k with
    | zero => simp; omega
    | succ k =>
      have := ih (k := k) (by simpa using hk)
      simp only [List.set_cons_succ, List.map_cons, List.sum_cons, List.getD_cons_succ]
      omega
theorem fwd_sum {ms : List Nat} {N : Nat} : ∀ (st : List Nat) (p : Nat) (L : List (List Nat)), (∀ i ∈ st, i < ms.length) → L.length = ms.length → ((fwd ms N st p L).2.map List.length).sum = (L.map List.length).sum + st.length
  | [], p, L, _, _ => rfl
  | k :: r, p, L, hs, el => by
    simp only [fwd]
    rw [fwd_sum r _ _ (fun i m => hs i (List.mem_cons_of_mem _ m)) (by rw [List.length_set]; exact el), sum_len_set (by rw [el]; exact hs k List.mem_cons_self)]
    simp
    omega
theorem emp_sum (ms : List Nat) : ((emp ms).map List.length).sum = 0 := by
  induction ms with
  | nil => rfl
  | cons m ms ih => simp only [emp, List.map_cons, List.sum_cons] at ih ⊢; rw [ih]; rfl
theorem lgs_sum {ms st : List Nat} {N p : Nat} (hs : ∀ i ∈ st, i < ms.length) : ((lgsOf ms N st p).map List.length).sum = st.length := by
  unfold lgsOf
  rw [fwd_sum st p _ hs (by simp), emp_sum, Nat.zero_add]
theorem lgs_len (ms st : List Nat) (N p : Nat) : (lgsOf ms N st p).length = ms.length := by
  unfold lgsOf
  rw [fwd_length]
  simp
theorem lgs_each {ms st : List Nat} {N p : Nat} : ∀ lg ∈ lgsOf ms N st p, lg.length ≤ st.length := fun lg m => by
  have := fwd_each ms N st p (emp ms) 0 (fun x mx => by
    obtain ⟨_, _, rfl⟩ := List.mem_map.mp mx
    simp) lg m
  omega
theorem lgs_ok {ms st : List Nat} {N p : Nat} (all : ∀ x ∈ ms, 0 < x) (hs : ∀ i ∈ st, i < ms.length) (sl : st.length ≤ 10000) : okLogs ms (lgsOf ms N st p) := by
  refine ⟨lgs_len ms st N p, fun lg m => Nat.le_trans (lgs_each lg m) sl, ?_⟩
  refine fwd_ok all st p (emp ms) hs (by simp) fun i lg m e1 e2 x mx => ?_
  rw [emp, List.getElem?_map] at e1
  obtain ⟨_, _, rfl⟩ := Option.map_eq_some_iff.mp e1
  cases mx
theorem lgs_laid (ms st : List Nat) (N p : Nat) : laidL st (mrk ms N st p) (List.replicate ms.length []) = lgsOf ms N st p := by
  unfold lgsOf
  rw [fwd_laid]
  have : emp ms = List.replicate ms.length [] := by rw [emp, List.map_const']
  rw [this]
theorem bwd_lgs {ms st : List Nat} {N p : Nat} (go : sSum ms N ≤ N) (all : ∀ x ∈ ms, 0 < x) (hp : p < N) (hs : ∀ i ∈ st, i < ms.length) (sl : st.length < 1000) : bwd ms N (lgsOf ms N st p) 1000 (plc ms N st p) ((lgsOf ms N st p).map List.length) [] = (st.reverse, p) := by
  have z := bwd_fwd (lgs := lgsOf ms N st p) go all hp (lgs_len ms st N p) st.length 1000 st [] rfl sl hs fun i x ex => ⟨[], by rw [List.append_nil]; exact ex⟩
  simpa [lgsOf] using z
theorem bent_sum : ∀ {a b : List (List Nat)}, b.length = a.length → (∀ (i : Nat) (x y : List Nat), a[i]? = some x → b[i]? = some y → y.length ≤ 2 * x.length + 1) → (b.map List.length).sum ≤ 2 * (a.map List.length).sum + a.length
  | [], b, l, _ => by
    cases b with
    | nil => simp
    | cons _ _ => simp at l
  | x :: a, [], l, _ => by simp at l
  | x :: a, y :: b, l, h => by
    have h0 := h 0 x y rfl rfl
    have := bent_sum (a := a) (b := b) (by simpa using l) fun i x y e1 e2 => h (i + 1) x y (by simpa using e1) (by simpa using e2)
    simp only [List.map_cons, List.sum_cons, List.length_cons]
    omega
theorem bwd_len {ms : List Nat} {N : Nat} {lgs : List (List Nat)} : ∀ (K p : Nat) (cs fd : List Nat), (bwd ms N lgs K p cs fd).1.length ≤ fd.length + K
  | 0, p, cs, fd => by simp [bwd]
  | K + 1, p, cs, fd => by
    unfold bwd
    split
    · split
      · simp
      · split
        · simp
        · split
          · simp
          · refine Nat.le_trans (bwd_len K _ _ _) ?_
            simp
            omega
    · simp
/-! ### the defs of the program, asked -/
theorem ask_logs {ms st : List Nat} {N p : Nat} (cm : okMs ms = true) (n0 : 0 < N) (nb : N < 2 ^ 4000) (hp : p < N) (hs : ∀ i ∈ st, i < ms.length) (sl : st.length ≤ 10000) {v : D} (ev : seqF v = some (st.map dN)) (h : CH) :
    f_digit_logs [dD ms N, v, dN p] h = .ok (.tup [dN (plc ms N st p), .tup ((lgsOf ms N st p).map tN)]) h := by
  have c : st.length ≤ 10000 ∧ (∀ x ∈ st, x < ms.length) ∧ 0 ≤ (p : Int) ∧ (p : Int) < (N : Int) := ⟨sl, hs, by omega, by omega⟩
  simp only [f_digit_logs, dOf_dD cm n0 nb, ev, natsOf_map, if_pos c, Int.toNat_natCast, fwd_plc, lgsOf]
theorem ask_story {ms : List Nat} {N p : Nat} {lgs : List (List Nat)} (cm : okMs ms = true) (n0 : 0 < N) (nb : N < 2 ^ 4000) (hp : p < N) (ok : okLogs ms lgs) (sl : (lgs.map List.length).sum < 1000) {v : D} {l : List D} (ev : seqF v = some l) (el : logsOf l = some lgs) (h : CH) :
    f_digit_story [dD ms N, dN p, v] h = .ok (.tup [tN (bwd ms N lgs 1000 p (lgs.map List.length) []).1.reverse, dN (bwd ms N lgs 1000 p (lgs.map List.length) []).2]) h := by
  have c : okLogs ms lgs ∧ 0 ≤ (p : Int) ∧ (p : Int) < (N : Int) ∧ (lgs.map List.length).sum < 1000 := ⟨ok, by omega, by omega, sl⟩
  simp only [f_digit_story, dOf_dD cm n0 nb, ev, el, if_pos c, Int.toNat_natCast]
theorem logsOf_lN : ∀ lgs : List (List Nat), logsOf (lgs.map lN) = some lgs
  | [] => rfl
  | lg :: r => by
    rw [List.map_cons]
    simp only [logsOf, seqF, natsOf_map, logsOf_lN r, Option.map_some]
/-! ### trees -/
theorem itTs_of {ds : List D} (h : ∀ d ∈ ds, itT d = true) : itTs ds = true := by
  induction ds with
  | nil => rfl
  | cons d ds ih => simp only [itTs, h d List.mem_cons_self, ih fun x m => h x (List.mem_cons_of_mem _ m), Bool.and_self]
theorem itT_nat {n : Nat} (h : n < 1000000) : itT (dN n) = true := by
  simp only [itT, decide_eq_true_eq]
  omega
theorem itT_tN {l : List Nat} (h : ∀ n ∈ l, n < 1000000) : itT (tN l) = true := by
  simp only [itT]
  refine itTs_of fun d m => ?_
  obtain ⟨n, mn, rfl⟩ := List.mem_map.mp m
  exact itT_nat (h n mn)
theorem costTs_le {c : Nat} : ∀ {ds : List D}, (∀ d ∈ ds, costT d ≤ c) → costTs ds ≤ ds.length * (c + 2)
  | [], _ => by simp [costTs]
  | d :: ds, h => by
    have := costTs_le (ds := ds) fun x m => h x (List.mem_cons_of_mem _ m)
    have := h d List.mem_cons_self
    simp only [costTs, List.length_cons, Nat.add_mul]
    omega
theorem cost_tN (l : List Nat) : costT (tN l) ≤ 4 + l.length * 32 := by
  simp only [costT]
  have := costTs_le (c := 30) (ds := l.map dN) fun d m => by
    obtain ⟨n, mn, rfl⟩ := List.mem_map.mp m
    simp [costT]
  rw [List.length_map] at this
  omega
theorem itD_tN {k : Nat} {l : List Nat} (h : ∀ n ∈ l, n < 1000000) : itD (k + 2) (tN l) = true := by
  simp only [itD]
  exact itD_nats h
theorem itD_tup {k : Nat} {ds : List D} : itD (k + 1) (.tup ds) = ds.all (itD k) := rfl
/-- a text of a tree, twice -/
structure Twice (h : CH) (d : D) : Prop where
  re : ∃ x : Str, cRepr h [d] = some (.str x) ∧ fNeD h (.str x) (.str x) = some (.bl false)
  eq : fEqD h d d = some (.bl true)
  ne : fNeD h d d = some (.bl false)
theorem twice_of {d : D} (a : itD 9 d = true) (b : itT d = true) (c : costT d ≤ 1000000) (h : CH) : Twice h d := by
  obtain ⟨x, _, e, f⟩ := fRepr_tree (h := h) a b c
  exact ⟨⟨x, e, f h⟩, fEqD_tree a, fNeD_tree a⟩
theorem tw_nat {n : Nat} (h : n < 1000000) (H : CH) : Twice H (dN n) := twice_of (itD_nat h) (itT_nat h) (by simp [costT]) H
/-- (story, place) -/
theorem tw_story {l : List Nat} {p : Nat} (h : ∀ n ∈ l, n < 1000000) (hp : p < 1000000) (ll : l.length ≤ 10000) (H : CH) : Twice H (.tup [tN l, dN p]) := by
  refine twice_of ?_ ?_ ?_ H
  · have a := itD_tN (k := 6) h
    have b := itD_nat (k := 7) hp
    rw [itD_tup, List.all_cons, List.all_cons, List.all_nil, a, b]
    rfl
  · simp only [itT, itTs]
    have a := itT_tN h
    simp only [itT] at a
    rw [a]
    simp only [Bool.true_and, Bool.and_true, decide_eq_true_eq]
    omega
  · have := cost_tN l
    simp only [costT, costTs] at this ⊢
    omega
/-- (place, logs) -/
theorem tw_logs {L : List (List Nat)} {p : Nat} (h : ∀ lg ∈ L, ∀ n ∈ lg, n < 1000000) (hp : p < 1000000) (ll : L.length ≤ 8) (sz : ∀ lg ∈ L, lg.length ≤ 1000) (H : CH) : Twice H (.tup [dN p, .tup (L.map tN)]) := by
  refine twice_of ?_ ?_ ?_ H
  · have a : itD 8 (.tup (L.map tN)) = true := by
      rw [itD_tup, List.all_eq_true]
      intro d m
      obtain ⟨lg, ml, rfl⟩ := List.mem_map.mp m
      exact itD_tN (k := 5) (h lg ml)
    have b := itD_nat (k := 7) hp
    rw [itD_tup, List.all_cons, List.all_cons, List.all_nil, a, b]
    rfl
  · have a : itTs (L.map tN) = true := itTs_of fun d m => by
      obtain ⟨lg, ml, rfl⟩ := List.mem_map.mp m
      exact itT_tN (h lg ml)
    simp only [itT, itTs]
    rw [a]
    simp only [Bool.true_and, Bool.and_true, decide_eq_true_eq]
    omega
  · have a : costTs (L.map tN) ≤ (L.map tN).length * (32004 + 2) := costTs_le fun d m => by
      obtain ⟨lg, ml, rfl⟩ := List.mem_map.mp m
      have := cost_tN lg
      have := sz lg ml
      omega
    rw [List.length_map] at a
    simp only [costT, costTs]
    omega
end K16

set_option Elab.async false
set_option linter.all false
set_option maxRecDepth 100000
set_option exponentiation.threshold 10000
namespace K16
open PySem PySem.Spec PyProof.Rows L2 Py
noncomputable abbrev lcW : ME := lc_law_0 f__law_box f__law_marks f__law_least f__law_goes f__law_pick f__law_moves f__law_take f__law_run f__law_laid f_digit_logs f_digit_story f__law_bent f__law_back i_Digits i_Hands
noncomputable def blk3 : MS := (sSeq (sAsg (mCall 3 f__law_run [] (mCons (mVar 9) (mCons (mVar 10) (mCons (mVar 5) mNil)))) (gT 2 (gConss (gN 15) (gConss (gN 16) gNils)))) (sSeq (sAsg (mCall 3 f__law_laid [] (mCons (mCB cLen (mCons (mVar 2) mNil)) (mCons (mVar 10) (mCons (mVar 16) mNil)))) (gN 12)) (sSeq (sIf (mOr (mBin fNeD (mCB cRepr (mCons (mCall 3 f_digit_logs [] (mCons (mVar 7) (mCons (mCB cList (mCons (mVar 10) mNil)) (mCons (mVar 5) mNil)))) mNil)) (mCB cRepr (mCons (mTup (mCons (mVar 15) (mCons (mVar 12) mNil))) mNil))) (mBin fNeD (mCB cRepr (mCons (mCall 3 f_digit_story [] (mCons (mVar 7) (mCons (mVar 15) (mCons (mVar 12) mNil)))) mNil)) (mCB cRepr (mCons (mTup (mCons (mVar 10) (mCons (mVar 5) mNil))) mNil)))) (sSeq (sRet (mC (.bl false))) sNext) sNext) (sSeq (sIf (mBin fNeD (mCallK 3 f_digit_story [2, 1, 0] (mCons (lc_law_0 f__law_box f__law_marks f__law_least f__law_goes f__law_pick f__law_moves f__law_take f__law_run f__law_laid f_digit_logs f_digit_story f__law_bent f__law_back i_Digits i_Hands) (mCons (mVar 15) (mCons (mVar 7) mNil)))) (mTup (mCons (mVar 10) (mCons (mVar 5) mNil)))) (sSeq (sRet (mC (.bl false))) sNext) sNext) (sSeq (sAsg (mCall 3 f__law_bent [] (mCons (mVar 1) (mCons (mVar 2) (mCons (mVar 12) mNil)))) (gN 13)) (sSeq (sAsg (mCall 2 f__law_pick [] (mCons (mVar 1) (mCons (mLst (mCons (mVar 15) (mCons (mVar 15) (mCons (mCall 2 f__law_take [] (mCons (mVar 1) (mCons (mFld cs_number "number" (mVar 7)) mNil))) mNil)))) mNil))) (gN 14)) (sSeq (sAsg (mCall 4 f__law_back [] (mCons (mVar 9) (mCons (mCB cLen (mCons (mVar 2) mNil)) (mCons (mVar 14) (mCons (mVar 13) mNil))))) (gN 8)) (sSeq (sIf (mBin fNeD (mCB cRepr (mCons (mCall 3 f_digit_story [] (mCons (mVar 7) (mCons (mVar 14) (mCons (mVar 13) mNil)))) mNil)) (mCB cRepr (mCons (mVar 8) mNil))) (sSeq (sRet (mC (.bl false))) sNext) sNext) (sSeq (sIf (mBin fNeD (mBin fIx (mCall 3 f__law_run [] (mCons (mVar 9) (mCons (mBin fIx (mVar 8) (mC (.int 0))) (mCons (mBin fIx (mVar 8) (mC (.int 1))) mNil)))) (mC (.int 0))) (mVar 14)) (sSeq (sRet (mC (.bl false))) sNext) sNext) sNext)))))))))
theorem chk_repr {a b : ME} {s : SLS} {h : CH} {d : D} (ea : a s h = .ok d h) (eb : b s h = .ok d h) (t : Twice h d) : mBin fNeD (mCB cRepr (mCons a mNil)) (mCB cRepr (mCons b mNil)) s h = .ok (.bl false) h := by
  obtain ⟨x, e1, e2⟩ := t.re
  exact bin_ok (cb_one ea e1) (cb_one eb e1) e2
theorem chk_ne {a b : ME} {s : SLS} {h : CH} {d : D} (ea : a s h = .ok d h) (eb : b s h = .ok d h) (t : Twice h d) : mBin fNeD a b s h = .ok (.bl false) h := bin_ok ea eb t.ne
theorem tup2 {a b : ME} {s : SLS} {h h1 h2 : CH} {d e : D} (ea : a s h = .ok d h1) (eb : b s h1 = .ok e h2) : mTup (mCons a (mCons b mNil)) s h = .ok (.tup [d, e]) h2 :=
  mTup_ok (mCons_ok ea (mCons_ok eb rfl)) (by simp)
theorem var_ok {i : Nat} {s : SLS} {d : D} (e : s[i]? = some (some d)) (h : CH) : mVar i s h = .ok d h := by
  simp only [mVar, e]
/-- what the law knows of its hands and numbers -/
structure Kn (ms : List Nat) (N : Nat) : Prop where
  gm : goodMs ms
  go : sSum ms N ≤ N
  n0 : 0 < N
  nb : N < 1000
theorem Kn.cm {ms : List Nat} {N : Nat} (k : Kn ms N) : okMs ms = true := k.gm.1
theorem Kn.all {ms : List Nat} {N : Nat} (k : Kn ms N) : ∀ x ∈ ms, 0 < x := fun x m => (okMs_mem k.cm x m).1
theorem Kn.big {ms : List Nat} {N : Nat} (k : Kn ms N) : N < 2 ^ 4000 := Nat.lt_trans (Nat.lt_trans k.nb (by decide : 1000 < 20000)) b20k
theorem sm_logs {ms : List Nat} {lgs : List (List Nat)} (cm : okMs ms = true) (ok : okLogs ms lgs) : ∀ lg ∈ lgs, ∀ n ∈ lg, n < 1000000 := fun lg ml n mn => by
  obtain ⟨i, hi, rfl⟩ := List.mem_iff_getElem.mp ml
  have hi2 : i < ms.length := by rw [← ok.1]; exact hi
  have := ok.2.2 i _ _ (List.getElem?_eq_getElem hi) (List.getElem?_eq_getElem hi2) n mn
  have := okMs_mem cm _ (List.getElem_mem hi2)
  omega
theorem lc_lists {L : List (List Nat)} (hn : L.length ≤ 1000) (H : CH) (a0 a1 a2 a3 a4 a5 a6 a7 a8 a9 a10 a11 a13 a14 a15 a16 a17 a18 : Option D) :
    lcW [a0, a1, a2, a3, a4, a5, a6, a7, a8, a9, a10, a11, some (.tup (L.map tN)), a13, a14, a15, a16, a17, a18] H = .ok (.lst (L.map lN)) H := by
  refine mLc_all (x := .fix (L.map tN)) tN lN ?_ rfl (sz_of hn) fun lg mlg => ⟨_, rfl, ?_⟩
  · simp only [srcOf, startD, List.map_cons, List.map_nil, List.length_cons, List.length_nil, List.replicate_succ, List.replicate_zero, List.cons_append, List.nil_append, List.append_nil, sSeq, sNext, sAsg, sExpr, sRet, sRetN, sIf, sPar, sAug, sFor, sNo, sSetF, RE.bind, RE.bindA, RA.bindA, RA.bind, RE.bindS, RS.bind, lift, mVar, mC, mBin, mUn, mCB, mCons, mNil, mTup, mLst, mLstC, mChain, mAnd, mOr, mNot, mIf, mTru, mCall, mFld, ar, gN, gNils, gConss, gT, List.getElem?_cons_zero, List.getElem?_cons_succ, List.set_cons_zero, List.set_cons_succ, fEqD_int, fNeD_int, fAdd_int, fSub_int, fLt_int, fLe_int, fGt_int, fGe_int, Nat.reduceSub, RSrc.bindS, RSrc.bind, RE.src, RA.src, iSeq, iEnum', Src.items, Nat.reduceAdd, reduceIte]
  · simp only [wipeS, cList, seqOf, Option.map_some, startD, List.map_cons, List.map_nil, List.length_cons, List.length_nil, List.replicate_succ, List.replicate_zero, List.cons_append, List.nil_append, List.append_nil, sSeq, sNext, sAsg, sExpr, sRet, sRetN, sIf, sPar, sAug, sFor, sNo, sSetF, RE.bind, RE.bindA, RA.bindA, RA.bind, RE.bindS, RS.bind, lift, mVar, mC, mBin, mUn, mCB, mCons, mNil, mTup, mLst, mLstC, mChain, mAnd, mOr, mNot, mIf, mTru, mCall, mFld, ar, gN, gNils, gConss, gT, List.getElem?_cons_zero, List.getElem?_cons_succ, List.set_cons_zero, List.set_cons_succ, fEqD_int, fNeD_int, fAdd_int, fSub_int, fLt_int, fLe_int, fGt_int, fGe_int, Nat.reduceSub, RSrc.bindS, RSrc.bind, RE.src, RA.src, iSeq, iEnum', Src.items, Nat.reduceAdd, reduceIte]
theorem blk_ok {ms st : List Nat} {N p b : Nat} {H : CH} (k : Kn ms N) (a : At H H b) (hp : p < N) (hs : ∀ i ∈ st, i < ms.length) (sl : st.length ≤ 100) (a0 a3 a4 a6 a8 a11 a12 a13 a14 a15 a16 a17 a18 : Option D) :
    ∃ (H' : CH) (b8 b12 b13 b14 b15 b16 : Option D), blk3 [a0, some (.cell b), some (tN ms), a3, a4, some (dN p), a6, some (dD ms N), a8, some (movD ms N), some (tN st), a11, a12, a13, a14, a15, a16, a17, a18] H =
      .nx [a0, some (.cell b), some (tN ms), a3, a4, some (dN p), a6, some (dD ms N), b8, some (movD ms N), some (tN st), a11, b12, b13, b14, b15, b16, a17, a18] H' ∧ At H H' b := by
  have cm := k.cm
  have all := k.all
  have hn := okMs_len cm
  have nb := k.nb
  have sv : seqF (tN st) = some (st.map dN) := rfl
  have sml : ∀ n ∈ st, n < 1000000 := fun n m => by have := hs n m; omega
  have ok := lgs_ok (N := N) (p := p) all hs (by omega)
  have su := lgs_sum (N := N) (p := p) hs
  have each : ∀ lg ∈ lgsOf ms N st p, lg.length ≤ 1000 := fun lg m => by have := lgs_each lg m; omega
  have pl := plc_lt k.go all st p hp hs
  have back := bwd_lgs k.go all hp hs (by omega : st.length < 1000)
  -- the run
  have e1 := run_ok (h := H) k.go all hp hs (by omega) a.bx.low sv
  have e2 := laid_ok (h := H) (n := ms.length) (by omega) (mrk_length ms N st p) hs (by omega) a.bx.low sv
  rw [lgs_laid] at e2
  have q1 := ask_logs (v := .lst (st.map dN)) cm k.n0 k.big hp hs (by omega) rfl H
  have q2 := ask_story (v := .tup ((lgsOf ms N st p).map tN)) cm k.n0 k.big pl ok (by omega) rfl (logsOf_tN _) H
  have q3 := ask_story (v := .lst ((lgsOf ms N st p).map lN)) cm k.n0 k.big pl ok (by omega) rfl (logsOf_lN _) H
  rw [back] at q2 q3
  simp only [List.reverse_reverse] at q2 q3
  generalize hL : lgsOf ms N st p = L at *
  have lL : L.length = ms.length := by rw [← hL]; exact lgs_len ms st N p
  generalize hq : plc ms N st p = q at *
  have t1 := tw_logs (p := q) (sm_logs cm ok) (by omega) (by omega) each H
  have t2 := tw_story (p := p) sml (by omega) (by omega) H
  -- what is bent, where it is asked
  obtain ⟨lgs', h2, e5, a2, br⟩ := bent_ok a cm ok each
  have su' := bent_sum br.1 br.2.2
  have fn : ∀ H : CH, fieldOf H cs_number "number" (dD ms N) = some (dN N) := fun H => fld_number H ms N
  obtain ⟨r, h3, e6, a3', rl⟩ := (show At h2 h2 b from ⟨a2.bx, rfl, a2.hb⟩).draw (n := N) k.n0 (Nat.lt_trans nb (by decide))
  have a3h : At h3 h3 b := ⟨a3'.bx, rfl, a3'.hb⟩
  obtain ⟨dd, h4, e7, a4', md⟩ := pick_ok (xs := .lst [dN q, dN q, dN r]) a3h rfl (show 0 < 3 by decide) (show 3 < 2 ^ 100 by decide) (by simp [D.lows, D.low])
  obtain ⟨x, hx, rfl⟩ : ∃ x : Nat, x < N ∧ dd = dN x := by
    simp only [List.mem_cons, List.not_mem_nil, or_false] at md
    rcases md with z | z | z
    · exact ⟨q, pl, z⟩
    · exact ⟨q, pl, z⟩
    · exact ⟨r, rl, z⟩
  have aH : At H h4 b := ⟨a4'.bx, a4'.ln.trans (a3'.ln.trans a2.ln), a4'.hb⟩
  have sb : (lgs'.map List.length).sum < 1000 := by
    rw [su] at su'
    omega
  have e8 := back_ok (h := h4) (p := x) cm (by omega) hx br.2.1 sb aH.bx.low
  have q4 := ask_story (v := .tup (lgs'.map tN)) cm k.n0 k.big hx br.2.1 sb rfl (logsOf_tN _) h4
  obtain ⟨tl, b1, b2, b3, b4⟩ := bwd_end (N := N) br.2.1 1000 x (lgs'.map List.length) [] hx (by rw [List.length_map]; exact br.2.1.1) (fun i c lg z1 z2 => by
    rw [List.getElem?_map, z2] at z1
    cases z1
    exact Nat.le_refl _)
  have bl := bwd_len (ms := ms) (N := N) (lgs := lgs') 1000 x (lgs'.map List.length) []
  rw [List.nil_append] at b1
  rw [b1] at e8 q4 bl
  generalize hz : (bwd ms N lgs' 1000 x (lgs'.map List.length) []).2 = z at *
  have tr : ∀ i ∈ tl.reverse, i < ms.length := fun i m => b2 i (List.mem_reverse.mp m)
  have t3 := tw_story (l := tl.reverse) (p := z) (fun n m => by have := tr n m; omega) (by omega) (by rw [List.length_reverse]; simp at bl; omega) h4
  have e9 := run_ok (h := h4) (v := tN tl.reverse) k.go all b3 tr (by rw [List.length_reverse]; simp at bl; omega) aH.bx.low rfl
  rw [b4] at e9
  refine ⟨h4, some (.tup [tN tl.reverse, dN z]), some (.tup (L.map tN)), some (.tup (lgs'.map tN)), some (dN x), some (dN q), some (.lst ((mrk ms N st p).map dN)), ?_, aH⟩
  unfold blk3
  refine (seq_asg (call3 rfl rfl rfl e1) (s1 := [a0, some (.cell b), some (tN ms), a3, a4, some (dN p), a6, some (dD ms N), a8, some (movD ms N), some (tN st), a11, a12, a13, a14, some (dN q), some (.lst ((mrk ms N st p).map dN)), a17, a18]) rfl).trans ?_
  have cl : ∀ H : CH, cLen H [tN ms] = some (dN ms.length) := fun H => by simp only [cLen, seqOf, Option.map_some, List.length_map]
  refine (seq_asg (call3 (cb_one (var_ok rfl _) (cl _)) rfl rfl e2) (s1 := [a0, some (.cell b), some (tN ms), a3, a4, some (dN p), a6, some (dD ms N), a8, some (movD ms N), some (tN st), a11, some (.tup (L.map tN)), a13, a14, some (dN q), some (.lst ((mrk ms N st p).map dN)), a17, a18]) rfl).trans ?_
  refine (seq_chk (or_ff (chk_repr (call3 rfl (cb_one (var_ok rfl _) rfl) rfl q1) (tup2 (var_ok rfl _) (var_ok rfl _)) t1) (chk_repr (call3 rfl rfl rfl q2) (tup2 (var_ok rfl _) (var_ok rfl _)) t2))).trans ?_
  refine (seq_chk (chk_ne (callK3 (lc_lists (by omega) _ _ _ _ _ _ _ _ _ _ _ _ _ _ _ _ _ _ _) rfl rfl q3) (tup2 (var_ok rfl _) (var_ok rfl _)) t2)).trans ?_
  refine (seq_asg (call3 rfl rfl rfl e5) (s1 := [a0, some (.cell b), some (tN ms), a3, a4, some (dN p), a6, some (dD ms N), a8, some (movD ms N), some (tN st), a11, some (.tup (L.map tN)), some (.tup (lgs'.map tN)), a14, some (dN q), some (.lst ((mrk ms N st p).map dN)), a17, a18]) rfl).trans ?_
  refine (seq_asg (call2 rfl (mLst_ok (ds := [dN q, dN q, dN r]) (mCons_ok (var_ok rfl _) (mCons_ok (var_ok rfl _) (mCons_ok (call2 rfl (fld_ok (var_ok rfl _) (fn _)) e6) rfl))) (show 3 ≤ 100 by decide)) e7) (s1 := [a0, some (.cell b), some (tN ms), a3, a4, some (dN p), a6, some (dD ms N), a8, some (movD ms N), some (tN st), a11, some (.tup (L.map tN)), some (.tup (lgs'.map tN)), some (dN x), some (dN q), some (.lst ((mrk ms N st p).map dN)), a17, a18]) rfl).trans ?_
  refine (seq_asg (call4 rfl (cb_one (var_ok rfl _) (cl _)) rfl rfl e8) (s1 := [a0, some (.cell b), some (tN ms), a3, a4, some (dN p), a6, some (dD ms N), some (.tup [tN tl.reverse, dN z]), some (movD ms N), some (tN st), a11, some (.tup (L.map tN)), some (.tup (lgs'.map tN)), some (dN x), some (dN q), some (.lst ((mrk ms N st p).map dN)), a17, a18]) rfl).trans ?_
  refine (seq_chk (chk_repr (call3 rfl rfl rfl q4) (var_ok rfl _) t3)).trans ?_
  have t4 := tw_nat (n := x) (by omega) h4
  refine (seq_chk (chk_ne (bin_ok (call3 rfl (bin_ok (var_ok rfl _) rfl (fIx_tup (i := 0) rfl)) (bin_ok (var_ok rfl _) rfl (fIx_tup (i := 1) rfl)) e9) rfl (fIx_tup (i := 0) rfl)) (var_ok rfl _) t4)).trans ?_
  rfl
end K16

set_option Elab.async false
set_option linter.all false
set_option maxRecDepth 100000
set_option exponentiation.threshold 10000
namespace K16
open PySem PySem.Spec PyProof.Rows L2 Py
theorem box_ok {ns : List Int} {k : Nat} {h : CH} (bx : Bx h) (hk : k < 1000) : ∃ g r, f__law_box [.scr ns, dN k] h = .ok (.cell h.length) (h ++ [bC g r]) ∧ At (h ++ [bC g r]) (h ++ [bC g r]) h.length := by
  refine ⟨greatI ns k, restI ns k, ?_, bx.add (okB_box ns k), rfl, by simp⟩
  have c : 0 ≤ (k : Int) ∧ (k : Int) < 1000 := by omega
  simp only [f__law_box, if_pos c, Int.toNat_natCast]
theorem At.self {h h' : CH} {b : Nat} (a : At h h' b) : At h' h' b := ⟨a.bx, rfl, a.hb⟩
/-- the turns -/
theorem turns_ok {ms : List Nat} {ns : List Int} {N p b : Nat} {H : CH} (k : Kn ms N) (a : At H H b) (hp : p < N) (nl : ns.length ≤ 100000) (a3 a4 a6 a8 : Option D) :
    ∃ (H' : CH) (b' : Nat) (st : List Nat) (b6 b8 b12 b13 b14 b15 b16 : Option D), lp_law_0 f__law_box f__law_marks f__law_least f__law_goes f__law_pick f__law_moves f__law_take f__law_run f__law_laid f_digit_logs f_digit_story f__law_bent f__law_back i_Digits i_Hands
      [some (.scr ns), some (.cell b), some (tN ms), a3, a4, some (dN p), a6, some (dD ms N), a8, some (movD ms N), some (tN []), none, none, none, none, none, none, none, none] H =
      .nx [some (.scr ns), some (.cell b'), some (tN ms), a3, a4, some (dN p), b6, some (dD ms N), b8, some (movD ms N), some (tN st), none, b12, b13, b14, b15, b16, none, none] H' ∧ Bx H' ∧ (∀ i ∈ st, i < ms.length) ∧ st.length ≤ 100 := by
  have hn := okMs_len k.cm
  obtain ⟨J, hJ, it⟩ : ∃ J : Nat, J ≤ 40 ∧ iRange2 (mCons (mC (.int 1)) (mCons (mCB cMax (mCons (mC (.int 12)) (mCons (mCB cMin (mCons (mCB cLen (mCons (mVar 0) mNil)) (mCons (mC (.int 40)) mNil))) mNil))) mNil))
      [some (.scr ns), some (.cell b), some (tN ms), a3, a4, some (dN p), a6, some (dD ms N), a8, some (movD ms N), some (tN []), none, none, none, none, none, none, none, none] H = .ok (.fix (rangeD 1 J)) H := by
    have z := iC2 (m := mCons (mC (.int 1)) (mCons (mCB cMax (mCons (mC (.int 12)) (mCons (mCB cMin (mCons (mCB cLen (mCons (mVar 0) mNil)) (mCons (mC (.int 40)) mNil))) mNil))) mNil))
      (s := [some (.scr ns), some (.cell b), some (tN ms), a3, a4, some (dN p), a6, some (dD ms N), a8, some (movD ms N), some (tN []), none, none, none, none, none, none, none, none]) (h := H) (h1 := H) (i := 1) (j := if (if (40 : Int) < (ns.length : Int) then 40 else (ns.length : Int)) > 12 then (if (40 : Int) < (ns.length : Int) then 40 else (ns.length : Int)) else 12)
      (by simp only [cLen_scr, cMin, cMax, startD, List.map_cons, List.map_nil, List.length_cons, List.length_nil, List.replicate_succ, List.replicate_zero, List.cons_append, List.nil_append, List.append_nil, sSeq, sNext, sAsg, sExpr, sRet, sRetN, sIf, sPar, sAug, sFor, sNo, sSetF, RE.bind, RE.bindA, RA.bindA, RA.bind, RE.bindS, RS.bind, lift, mVar, mC, mBin, mUn, mCB, mCons, mNil, mTup, mLst, mLstC, mChain, mAnd, mOr, mNot, mIf, mTru, mCall, mFld, ar, gN, gNils, gConss, gT, List.getElem?_cons_zero, List.getElem?_cons_succ, List.set_cons_zero, List.set_cons_succ, fEqD_int, fNeD_int, fAdd_int, fSub_int, fLt_int, fLe_int, fGt_int, fGe_int, Nat.reduceSub, RSrc.bindS, RSrc.bind, RE.src, RA.src, iSeq, iEnum', Src.items, Nat.reduceAdd, reduceIte]) (by split <;> split <;> omega)
    refine ⟨_, ?_, z⟩
    split <;> split <;> omega
  obtain ⟨s', h', z, b', st, o6, o8, o12, o13, o14, o15, o16, ez, bx, bl, sl, hs⟩ : ∃ s' h', lp_law_0 f__law_box f__law_marks f__law_least f__law_goes f__law_pick f__law_moves f__law_take f__law_run f__law_laid f_digit_logs f_digit_story f__law_bent f__law_back i_Digits i_Hands
      [some (.scr ns), some (.cell b), some (tN ms), a3, a4, some (dN p), a6, some (dD ms N), a8, some (movD ms N), some (tN []), none, none, none, none, none, none, none, none] H = .nx s' h' ∧
      ∃ (b' : Nat) (st : List Nat) (o6 o8 o12 o13 o14 o15 o16 : Option D), s' = [some (.scr ns), some (.cell b'), some (tN ms), a3, a4, some (dN p), o6, some (dD ms N), o8, some (movD ms N), some (tN st), none, o12, o13, o14, o15, o16, none, none] ∧ Bx h' ∧ b' < h'.length ∧ st.length = (rangeD 1 J).length ∧ ∀ i ∈ st, i < ms.length := by
    unfold lp_law_0
    exact sFor_all (x := .fix (rangeD 1 J)) (l := rangeD 1 J) (fun i s h' => ∃ (b' : Nat) (st : List Nat) (o6 o8 o12 o13 o14 o15 o16 : Option D), s = [some (.scr ns), some (.cell b'), some (tN ms), a3, a4, some (dN p), o6, some (dD ms N), o8, some (movD ms N), some (tN st), none, o12, o13, o14, o15, o16, none, none] ∧ Bx h' ∧ b' < h'.length ∧ st.length = i ∧ ∀ i ∈ st, i < ms.length)
      it ⟨b, [], a6, a8, none, none, none, none, none, rfl, a.bx, a.hb, rfl, by simp⟩ (fun i s h' _ => rfl) (fun i d s h' ⟨b', st, o6, o8, o12, o13, o14, o15, o16, es, bx, bl, sl, hs⟩ ed => by
      subst es
      obtain ⟨hi, rfl⟩ := rangeD_get ed
      have ek : (1 : Int) + (i : Nat) = ((1 + i : Nat) : Int) := by omega
      rw [ek]
      obtain ⟨g, r, e1, a1⟩ := box_ok (ns := ns) (k := 1 + i) bx (by omega)
      obtain ⟨x, h2, e2, a2, hx⟩ := a1.draw (n := ms.length) (by omega) (Nat.lt_of_le_of_lt hn.2 (by decide))
      have st2 : ∀ j ∈ st ++ [x], j < ms.length := fun j m => by
        rcases List.mem_append.mp m with q | q
        · exact hs j q
        · rw [List.mem_singleton.mp q]; exact hx
      have sl2 : (st ++ [x]).length = i + 1 := by simp [sl]
      have cl : ∀ H : CH, cLen H [tN ms] = some (dN ms.length) := fun H => by simp only [cLen, seqOf, Option.map_some, List.length_map]
      have cat : ∀ H : CH, fAdd H (tN st) (.tup [dN x]) = some (tN (st ++ [x])) := fun H => by
        have c : (st.map dN).length + [dN x].length ≤ sizeLine := sz_of (n := (st.map dN).length + [dN x].length) (m := 1000) (by simp; omega)
        simp only [fAdd, fOr, fInt, fCatT, if_pos c, tN, List.map_append]
        rfl
      have cnd : mBin fEqD (mBin fMod (mCB cInt (mCons (mVar 6) mNil)) (mC (.int 3))) (mC (.int 0)) [some (.scr ns), some (.cell h'.length), some (tN ms), a3, a4, some (dN p), some (dN (1 + i)), some (dD ms N), o8, some (movD ms N), some (tN (st ++ [x])), none, o12, o13, o14, o15, o16, none, none] h2 = .ok (.bl (decide (((1 + i : Nat) : Int) % 3 = 0))) h2 :=
        bin_ok (bin_ok (cb_one (var_ok rfl _) rfl) rfl (fMod_int _ (by decide))) rfl (fEqD_int _ _ _)
      have w1 : ∀ r : MS, sSeq (sAsg (mCall 2 f__law_box [] (mCons (mVar 0) (mCons (mVar 6) mNil))) (gN 1)) r [some (.scr ns), some (.cell b'), some (tN ms), a3, a4, some (dN p), some (dN (1 + i)), some (dD ms N), o8, some (movD ms N), some (tN st), none, o12, o13, o14, o15, o16, none, none] h' = r [some (.scr ns), some (.cell h'.length), some (tN ms), a3, a4, some (dN p), some (dN (1 + i)), some (dD ms N), o8, some (movD ms N), some (tN st), none, o12, o13, o14, o15, o16, none, none] (h' ++ [bC g _]) := fun r => seq_asg (call2 rfl rfl e1) rfl
      have w2 : ∀ r : MS, sSeq (sAsg (mBin fAdd (mVar 10) (mTup (mCons (mCall 2 f__law_take [] (mCons (mVar 1) (mCons (mCB cLen (mCons (mVar 2) mNil)) mNil))) mNil))) (gN 10)) r [some (.scr ns), some (.cell h'.length), some (tN ms), a3, a4, some (dN p), some (dN (1 + i)), some (dD ms N), o8, some (movD ms N), some (tN st), none, o12, o13, o14, o15, o16, none, none] (h' ++ [bC g _]) = r [some (.scr ns), some (.cell h'.length), some (tN ms), a3, a4, some (dN p), some (dN (1 + i)), some (dD ms N), o8, some (movD ms N), some (tN (st ++ [x])), none, o12, o13, o14, o15, o16, none, none] h2 := fun r =>
        seq_asg (bin_ok (var_ok rfl _) (mTup_ok (ds := [dN x]) (mCons_ok (call2 rfl (cb_one (var_ok rfl _) (cl _)) e2) rfl) (show 1 ≤ 100 by decide)) (cat _)) rfl
      by_cases c3 : ((1 + i : Nat) : Int) % 3 = 0
      · obtain ⟨H', b8, b12, b13, b14, b15, b16, e3, a3'⟩ := blk_ok (p := p) k (show At h2 h2 h'.length from ⟨a2.bx, rfl, a2.hb⟩) hp st2 (by omega) (some (.scr ns)) a3 a4 (some (dN (1 + i))) o8 none o12 o13 o14 o15 o16 none none
        rw [decide_eq_true c3] at cnd
        refine ⟨_, _, H', rfl, .inl ?_, h'.length, st ++ [x], some (dN (1 + i)), b8, b12, b13, b14, b15, b16, rfl, a3'.bx, a3'.hb, sl2, st2⟩
        refine (w1 _).trans ((w2 _).trans ?_)
        exact (seq_then cnd e3).trans rfl
      · rw [decide_eq_false c3] at cnd
        refine ⟨_, _, h2, rfl, .inl ?_, h'.length, st ++ [x], some (dN (1 + i)), o8, o12, o13, o14, o15, o16, rfl, a2.bx, a2.hb, sl2, st2⟩
        refine (w1 _).trans ((w2 _).trans ?_)
        exact (seq_chk cnd).trans rfl)
  subst ez
  exact ⟨h', b', st, o6, o8, o12, o13, o14, o15, o16, z, bx, hs, by rw [sl, range_len1]; omega⟩
end K16

set_option Elab.async false
set_option linter.all false
set_option maxRecDepth 100000
set_option exponentiation.threshold 10000
namespace K16
open PySem PySem.Spec PyProof.Rows L2 Py
theorem low_int (n : Nat) (i : Int) : D.low n (.int i) = true := rfl
/-- hands and their least number, once chosen -/
structure Ch (ms : List Nat) (l : Nat) : Prop where
  gm : goodMs ms
  l1 : 1 ≤ l
  l60 : l ≤ 60
  go : sSum ms l ≤ l
  it : leastIt ms 100 1 = some l
theorem ch236 : Ch [2, 3, 6] 6 := ⟨by decide, by decide, by decide, by decide, by decide⟩
theorem ch_of {ms : List Nat} {l : Nat} (g : goodMs ms) (e : leastF ms = some l) (h : l ≤ 60) : Ch ms l := by
  obtain ⟨a, _, b, _⟩ := leastF_spec e
  exact ⟨g, a, h, b, least_eq e h⟩
theorem goes_eq {ms : List Nat} (g : goodMs ms) (n : Nat) (h : CH) : f__law_goes [tN ms, dN n] h = .ok (.bl (decide (sSum ms n ≤ n))) h := by
  have hn := okMs_len g.1
  have c : okS ms ∧ 0 < ms.length ∧ 0 ≤ (n : Int) := ⟨okS_of g.1, by omega, by omega⟩
  simp only [f__law_goes, natsOf_map, if_pos c, Int.toNat_natCast]
/-- the number that is asked for, and the one that is due -/
def numOk (ms : List Nat) (l N : Nat) (num : D) : Prop := (num = .non ∧ N = l) ∨ (num = dN N ∧ 0 < N)
theorem num_ok {ms : List Nat} {l b : Nat} {H : CH} (c : Ch ms l) (a : At H H b) (a0 a4 a5 a6 a7 a8 a9 a10 a11 a12 a13 a14 a15 a16 a17 a18 : Option D) : ∃ (num : D) (N : Nat) (h2 : CH),
    mIf (mCall 2 f__law_goes [] (mCons (mVar 2) (mCons (mBin fMul (mC (.int 6)) (mVar 3)) mNil))) (mCall 2 f__law_pick [] (mCons (mVar 1) (mCons (mLst (mCons (mC .non) (mCons (mVar 3) (mCons (mBin fMul (mC (.int 6)) (mVar 3)) mNil)))) mNil))) (mC .non)
      [a0, some (.cell b), some (tN ms), some (dN l), a4, a5, a6, a7, a8, a9, a10, a11, a12, a13, a14, a15, a16, a17, a18] H = .ok num h2 ∧ At H h2 b ∧ Kn ms N ∧ numOk ms l N num := by
  have mul : ∀ H : CH, fMul H (.int 6) (.int (l : Int)) = some (dN (6 * l)) := fun H => by
    have q := fMul_sm H (bigs (n := 6) (m := 60) (by decide) b60) (bigs c.l60 b60)
    rw [← Int.natCast_mul] at q
    exact q
  have g6 := goes_eq c.gm (6 * l) H
  have l60 := c.l60
  have l1 := c.l1
  have kl : Kn ms l := ⟨c.gm, c.go, by omega, by omega⟩
  have cond : mCall 2 f__law_goes [] (mCons (mVar 2) (mCons (mBin fMul (mC (.int 6)) (mVar 3)) mNil)) [a0, some (.cell b), some (tN ms), some (dN l), a4, a5, a6, a7, a8, a9, a10, a11, a12, a13, a14, a15, a16, a17, a18] H = _ := call2 rfl (bin_ok rfl (var_ok rfl _) (mul _)) g6
  by_cases g : sSum ms (6 * l) ≤ 6 * l
  · rw [decide_eq_true g] at cond
    obtain ⟨dd, h4, e7, a4', md⟩ := pick_ok (xs := .lst [.non, dN l, dN (6 * l)]) a rfl (show 0 < 3 by decide) (show 3 < 2 ^ 100 by decide) (by simp [D.lows, D.low])
    have e : mCall 2 f__law_pick [] (mCons (mVar 1) (mCons (mLst (mCons (mC .non) (mCons (mVar 3) (mCons (mBin fMul (mC (.int 6)) (mVar 3)) mNil)))) mNil)) [a0, some (.cell b), some (tN ms), some (dN l), a4, a5, a6, a7, a8, a9, a10, a11, a12, a13, a14, a15, a16, a17, a18] H = .ok dd h4 :=
      call2 rfl (mLst_ok (ds := [.non, dN l, dN (6 * l)]) (mCons_ok rfl (mCons_ok (var_ok rfl _) (mCons_ok (bin_ok rfl (var_ok rfl _) (mul _)) rfl))) (show 3 ≤ 100 by decide)) e7
    simp only [List.mem_cons, List.not_mem_nil, or_false] at md
    rcases md with z | z | z
    · exact ⟨dd, l, h4, if_t cond e, a4', kl, .inl ⟨z, rfl⟩⟩
    · exact ⟨dd, l, h4, if_t cond e, a4', kl, .inr ⟨z, by omega⟩⟩
    · exact ⟨dd, 6 * l, h4, if_t cond e, a4', ⟨c.gm, g, by omega, by omega⟩, .inr ⟨z, by omega⟩⟩
  · rw [decide_eq_false g] at cond
    exact ⟨.non, l, H, if_f cond rfl, a, kl, .inl ⟨rfl, rfl⟩⟩
theorem hands_ok {ms : List Nat} (cm : okMs ms = true) {a : ME} {s : SLS} {h : CH} (e : a s h = .ok (tN ms) h) : mMake cHands 1 i_Hands [] (mCons a mNil) s h = .ok (hD ms) h := by
  have z := make1 (c := cHands) (mi := i_Hands) (fs := [("marks", tN ms), ("many", dN ms.length)]) e (by simp only [i_Hands, natsOf_map, if_pos cm]) (by simp only [List.map_cons, List.map_nil, D.lows, low_tN, low_int, Bool.and_self])
  exact z
theorem digits_ok {ms : List Nat} {l N : Nat} {num : D} (c : Ch ms l) (kn : Kn ms N) (no : numOk ms l N num) {a b : ME} {s : SLS} {h : CH} (e : a s h = .ok (hD ms) h) (eb : b s h = .ok num h) : mMake cDigits 2 i_Digits [] (mCons a (mCons b mNil)) s h = .ok (dD ms N) h := by
  have cm := kn.cm
  have t : sumL ms ≤ lcmL ms := (tells_iff (okMs_mem cm)).mp c.gm.2.2.2
  have nn : numOf ms num = some N := by
    rcases no with ⟨z1, z2⟩ | ⟨z1, z2⟩
    · rw [z1, z2]; exact c.it
    · rw [z1]
      have cc : 0 < (N : Int) ∧ (sSum ms N : Int) ≤ (N : Int) := ⟨by omega, by have := kn.go; omega⟩
      simp only [numOf, Int.toNat_natCast, if_pos cc]
  have z := make2 (c := cDigits) (mi := i_Digits) (fs := [("hands", hD ms), ("number", dN N), ("stretches", stD ms N)]) e eb (by simp only [i_Digits, hOf_hD cm, if_pos t, nn]) (by
    simp only [List.map_cons, List.map_nil, D.lows, low_hD, low_int, Bool.true_and, Bool.and_true]
    exact low_lay _)
  exact z
theorem due_ok {ms : List Nat} {l N : Nat} {num : D} (no : numOk ms l N num) {s : SLS} {h : CH} (e4 : s[4]? = some (some num)) (e3 : s[3]? = some (some (dN l))) : mIf (mBin fIs (mVar 4) (mC .non)) (mVar 3) (mVar 4) s h = .ok (dN N) h := by
  rcases no with ⟨z1, z2⟩ | ⟨z1, z2⟩
  · subst z1 z2
    exact if_t (bin_ok (var_ok e4 _) rfl rfl) (var_ok e3 _)
  · subst z1
    exact if_f (bin_ok (var_ok e4 _) rfl rfl) (var_ok e4 _)
end K16

set_option Elab.async false
set_option linter.all false
set_option maxRecDepth 100000
set_option exponentiation.threshold 10000
namespace K16
open PySem PySem.Spec PyProof.Rows L2 Py
noncomputable abbrev lcX : ME := lc_law_1 f__law_box f__law_marks f__law_least f__law_goes f__law_pick f__law_moves f__law_take f__law_run f__law_laid f_digit_logs f_digit_story f__law_bent f__law_back i_Digits i_Hands
noncomputable def blkL : MS := (sSeq (sAsg (mCB cTuple (mCons (lc_law_1 f__law_box f__law_marks f__law_least f__law_goes f__law_pick f__law_moves f__law_take f__law_run f__law_laid f_digit_logs f_digit_story f__law_bent f__law_back i_Digits i_Hands) mNil)) (gN 11)) (sSeq (sAsg (mCall 3 f__law_run [] (mCons (mVar 9) (mCons (mVar 11) (mCons (mVar 5) mNil)))) (gT 2 (gConss (gN 15) (gConss (gN 16) gNils)))) (sSeq (sAsg (mCall 3 f__law_laid [] (mCons (mCB cLen (mCons (mVar 2) mNil)) (mCons (mVar 11) (mCons (mVar 16) mNil)))) (gN 12)) (sSeq (sIf (mOr (mBin fNeD (mCall 3 f_digit_logs [] (mCons (mVar 7) (mCons (mVar 11) (mCons (mVar 5) mNil)))) (mTup (mCons (mVar 15) (mCons (mVar 12) mNil)))) (mBin fNeD (mCall 3 f_digit_story [] (mCons (mVar 7) (mCons (mVar 15) (mCons (mVar 12) mNil)))) (mTup (mCons (mVar 11) (mCons (mVar 5) mNil))))) (sSeq (sRet (mC (.bl false))) sNext) sNext) sNext))))
theorem cLen_tN (ms : List Nat) (H : CH) : cLen H [tN ms] = some (dN ms.length) := by simp only [cLen, seqOf, Option.map_some, List.length_map]
theorem long_draw {ms : List Nat} {b : Nat} {H : CH} (cm : okMs ms = true) (a : At H H b) (a0 a3 a4 a5 a6 a7 a8 a9 a10 a11 a12 a13 a14 a15 a16 a17 a18 : Option D) : ∃ (st : List Nat) (h2 : CH), lcX [a0, some (.cell b), some (tN ms), a3, a4, a5, a6, a7, a8, a9, a10, a11, a12, a13, a14, a15, a16, a17, a18] H = .ok (.lst (st.map dN)) h2 ∧ At H h2 b ∧ st.length = 400 ∧ ∀ i ∈ st, i < ms.length := by
  have hn := okMs_len cm
  obtain ⟨ws, h3, z3, a3', l3, r3⟩ := mLc_eff (mi := iRange1 (mCons (mC (.int 400)) mNil)) (gm := gN 17) (me := mCall 2 f__law_take [] (mCons (mVar 1) (mCons (mCB cLen (mCons (mVar 2) mNil)) mNil))) (vs := [17])
    (s := [a0, some (.cell b), some (tN ms), a3, a4, a5, a6, a7, a8, a9, a10, a11, a12, a13, a14, a15, a16, a17, a18]) (h := H) (h1 := H) (l := rangeD 0 400) (fun x => At H x b) (fun v => ∃ k : Nat, k < ms.length ∧ v = dN k) (iR1 (n := 400) rfl (by decide)) a
    (by rw [range_len1]; exact sz_of (n := 400) (m := 400) (Nat.le_refl _)) (fun e _ hh ahh => by
      obtain ⟨q, h4, z4, a4, ql⟩ := ahh.draw (n := ms.length) (by omega) (Nat.lt_of_le_of_lt hn.2 (by decide))
      exact ⟨_, dN q, h4, rfl, call2 rfl (cb_one (var_ok rfl _) (cLen_tN ms _)) z4, a4, q, ql, rfl⟩)
  obtain ⟨st, rfl, hs⟩ := nats_of r3
  rw [List.length_map, range_len1] at l3
  exact ⟨st, h3, z3, a3', l3, hs⟩
theorem long_ok {ms : List Nat} {N p b : Nat} {H : CH} (k : Kn ms N) (a : At H H b) (hp : p < N) (a0 a3 a4 a6 a8 a10 a11 a12 a13 a14 a15 a16 a17 a18 : Option D) :
    ∃ (H' : CH) (b11 b12 b15 b16 : Option D), blkL [a0, some (.cell b), some (tN ms), a3, a4, some (dN p), a6, some (dD ms N), a8, some (movD ms N), a10, a11, a12, a13, a14, a15, a16, a17, a18] H =
      .nx [a0, some (.cell b), some (tN ms), a3, a4, some (dN p), a6, some (dD ms N), a8, some (movD ms N), a10, b11, b12, a13, a14, b15, b16, a17, a18] H' ∧ Bx H' := by
  have cm := k.cm
  have all := k.all
  have hn := okMs_len cm
  have nb := k.nb
  obtain ⟨st, h2, e0, a2, sl, hs⟩ := long_draw cm a a0 a3 a4 (some (dN p)) a6 (some (dD ms N)) a8 (some (movD ms N)) a10 a11 a12 a13 a14 a15 a16 a17 a18
  have sv : seqF (tN st) = some (st.map dN) := rfl
  have sml : ∀ n ∈ st, n < 1000000 := fun n m => by have := hs n m; omega
  have ok := lgs_ok (N := N) (p := p) all hs (by omega)
  have su := lgs_sum (N := N) (p := p) hs
  have each : ∀ lg ∈ lgsOf ms N st p, lg.length ≤ 1000 := fun lg m => by have := lgs_each lg m; omega
  have pl := plc_lt k.go all st p hp hs
  have back := bwd_lgs k.go all hp hs (by omega : st.length < 1000)
  have e1 := run_ok (h := h2) k.go all hp hs (by omega) a2.bx.low sv
  have e2 := laid_ok (h := h2) (n := ms.length) (by omega) (mrk_length ms N st p) hs (by omega) a2.bx.low sv
  rw [lgs_laid] at e2
  have q1 := ask_logs (v := tN st) cm k.n0 k.big hp hs (by omega) rfl h2
  have q2 := ask_story (v := .tup ((lgsOf ms N st p).map tN)) cm k.n0 k.big pl ok (by omega) rfl (logsOf_tN _) h2
  rw [back] at q2
  simp only [List.reverse_reverse] at q2
  generalize hL : lgsOf ms N st p = L at *
  have lL : L.length = ms.length := by rw [← hL]; exact lgs_len ms st N p
  generalize hq : plc ms N st p = q at *
  have t1 := tw_logs (p := q) (sm_logs cm ok) (by omega) (by omega) each h2
  have t2 := tw_story (p := p) sml (by omega) (by omega) h2
  refine ⟨h2, some (tN st), some (.tup (L.map tN)), some (dN q), some (.lst ((mrk ms N st p).map dN)), ?_, a2.bx⟩
  unfold blkL
  refine (seq_asg (cb_one e0 rfl) (s1 := [a0, some (.cell b), some (tN ms), a3, a4, some (dN p), a6, some (dD ms N), a8, some (movD ms N), a10, some (tN st), a12, a13, a14, a15, a16, a17, a18]) rfl).trans ?_
  refine (seq_asg (call3 rfl rfl rfl e1) (s1 := [a0, some (.cell b), some (tN ms), a3, a4, some (dN p), a6, some (dD ms N), a8, some (movD ms N), a10, some (tN st), a12, a13, a14, some (dN q), some (.lst ((mrk ms N st p).map dN)), a17, a18]) rfl).trans ?_
  refine (seq_asg (call3 (cb_one (var_ok rfl _) (cLen_tN ms _)) rfl rfl e2) (s1 := [a0, some (.cell b), some (tN ms), a3, a4, some (dN p), a6, some (dD ms N), a8, some (movD ms N), a10, some (tN st), some (.tup (L.map tN)), a13, a14, some (dN q), some (.lst ((mrk ms N st p).map dN)), a17, a18]) rfl).trans ?_
  exact (seq_chk (or_ff (chk_ne (call3 rfl rfl rfl q1) (tup2 (var_ok rfl _) (var_ok rfl _)) t1) (chk_ne (call3 rfl rfl rfl q2) (tup2 (var_ok rfl _) (var_ok rfl _)) t2))).trans rfl
/-- the last question -/
theorem last_ok {ms st : List Nat} {N p : Nat} {H : CH} (k : Kn ms N) (hp : p < N) (hs : ∀ i ∈ st, i < ms.length) (sl : st.length ≤ 100) {s : SLS} (s2 : s[2]? = some (some (tN ms))) (s5 : s[5]? = some (some (dN p))) (s7 : s[7]? = some (some (dD ms N))) (s10 : s[10]? = some (some (tN st))) :
    mAnd (mBin fEqD (mCall 3 f_digit_logs [.int 0] (mCons (mVar 7) (mCons (mVar 10) mNil))) (mCall 3 f_digit_logs [] (mCons (mVar 7) (mCons (mVar 10) (mCons (mC (.int 0)) mNil))))) (mBin fEqD (mCall 3 f_digit_logs [] (mCons (mVar 7) (mCons (mTup mNil) (mCons (mVar 5) mNil)))) (mTup (mCons (mVar 5) (mCons (mBin fMul (mTup (mCons (mTup mNil) mNil)) (mCB cLen (mCons (mVar 2) mNil))) mNil)))) s H = .ok (.bl true) H := by
  have cm := k.cm
  have hn := okMs_len cm
  have nb := k.nb
  have q1 := ask_logs (p := 0) (v := tN st) cm k.n0 k.big k.n0 hs (by omega) rfl H
  have q2 := ask_logs (st := []) (v := .tup []) cm k.n0 k.big hp (by simp) (by simp) rfl H
  have ok := lgs_ok (N := N) (p := 0) k.all hs (by omega)
  have each : ∀ lg ∈ lgsOf ms N st 0, lg.length ≤ 1000 := fun lg m => by have := lgs_each lg m; omega
  have pl := plc_lt k.go k.all st 0 k.n0 hs
  have t1 := tw_logs (p := plc ms N st 0) (sm_logs cm ok) (by omega) (by rw [lgs_len]; omega) each H
  have e0 : lgsOf ms N [] p = List.replicate ms.length [] := by
    have : emp ms = List.replicate ms.length [] := by rw [emp, List.map_const']
    rw [← this]
    rfl
  rw [e0] at q2
  have t2 := tw_logs (L := List.replicate ms.length []) (p := p) (fun lg m n mn => by
    obtain ⟨_, rfl⟩ := List.mem_replicate.mp m
    cases mn) (by omega) (by rw [List.length_replicate]; omega) (fun lg m => by
    obtain ⟨_, rfl⟩ := List.mem_replicate.mp m
    simp) H
  have rep : fMul H (.tup [.tup []]) (dN ms.length) = some (.tup ((List.replicate ms.length ([] : List Nat)).map tN)) := by
    have c : ([.tup []] : List D) ≠ [] ∧ 2 ≤ (ms.length : Int) ∧ (ms.length : Int) ≤ 1000 ∧ ([.tup []] : List D).length ≤ 1000 := ⟨by simp, by omega, by omega, by simp⟩
    simp only [fMul, fOr, fMulI, fInt, fRepT, if_pos c, Int.toNat_natCast, List.flatten_replicate_singleton, List.map_replicate, tN, List.map_nil]
  have t0 : ∀ (s : SLS) (h : CH), mTup mNil s h = .ok (.tup []) h := fun s h => mTup_ok rfl (by simp)
  refine and_tt (bin_ok (call2d (var_ok s7 _) (var_ok s10 _) q1) (call3 (var_ok s7 _) (var_ok s10 _) rfl q1) t1.eq) (bin_ok (call3 (var_ok s7 _) (t0 _ _) (var_ok s5 _) q2) (tup2 (var_ok s5 _) (bin_ok (mTup_ok (ds := [.tup []]) (mCons_ok (t0 _ _) rfl) (by simp)) (cb_one (var_ok s2 _) (cLen_tN ms _)) rep)) ?_)
  exact t2.eq
end K16

set_option Elab.async false
set_option linter.all false
set_option maxRecDepth 100000
set_option exponentiation.threshold 10000
namespace K16
open PySem PySem.Spec PyProof.Rows L2 Py
noncomputable def f_law : MF := cutM 19 (m_law f__law_box f__law_marks f__law_least f__law_goes f__law_pick f__law_moves f__law_take f__law_run f__law_laid f_digit_logs f_digit_story f__law_bent f__law_back i_Digits i_Hands)
/-- the hands, once chosen -/
theorem chosen {ms : List Nat} (g : goodMs ms) (H : CH) (a0 a1 a4 a5 a6 a7 a8 a9 a10 a11 a12 a13 a14 a15 a16 a17 a18 : Option D) : ∃ (ms' : List Nat) (l : Nat), Ch ms' l ∧ ∀ r : MS,
    sSeq (sAsg (mCall 1 f__law_least [] (mCons (mVar 2) mNil)) (gN 3)) (sSeq (sIf (mOr (mBin fIs (mVar 3) (mC .non)) (mBin fGt (mVar 3) (mC (.int 60)))) (sSeq (sAsg (mTup (mCons (mTup (mCons (mC (.int 2)) (mCons (mC (.int 3)) (mCons (mC (.int 6)) mNil)))) (mCons (mC (.int 6)) mNil))) (gT 2 (gConss (gN 2) (gConss (gN 3) gNils)))) sNext) sNext) r)
      [a0, a1, some (tN ms), none, a4, a5, a6, a7, a8, a9, a10, a11, a12, a13, a14, a15, a16, a17, a18] H = r [a0, a1, some (tN ms'), some (dN l), a4, a5, a6, a7, a8, a9, a10, a11, a12, a13, a14, a15, a16, a17, a18] H := by
  have hn := okMs_len g.1
  have c : okS ms ∧ 0 < ms.length := ⟨okS_of g.1, by omega⟩
  have e0 : f__law_least [tN ms] H = .ok (optD (leastF ms)) H := by simp only [f__law_least, natsOf_map, if_pos c]
  have step : ∀ r : MS, sSeq (sAsg (mCall 1 f__law_least [] (mCons (mVar 2) mNil)) (gN 3)) r [a0, a1, some (tN ms), none, a4, a5, a6, a7, a8, a9, a10, a11, a12, a13, a14, a15, a16, a17, a18] H = r [a0, a1, some (tN ms), some (optD (leastF ms)), a4, a5, a6, a7, a8, a9, a10, a11, a12, a13, a14, a15, a16, a17, a18] H := fun r => seq_asg (call1 rfl e0) rfl
  have other : ∀ (d : D), sSeq (sAsg (mTup (mCons (mTup (mCons (mC (.int 2)) (mCons (mC (.int 3)) (mCons (mC (.int 6)) mNil)))) (mCons (mC (.int 6)) mNil))) (gT 2 (gConss (gN 2) (gConss (gN 3) gNils)))) sNext [a0, a1, some (tN ms), some d, a4, a5, a6, a7, a8, a9, a10, a11, a12, a13, a14, a15, a16, a17, a18] H = .nx [a0, a1, some (tN [2, 3, 6]), some (dN 6), a4, a5, a6, a7, a8, a9, a10, a11, a12, a13, a14, a15, a16, a17, a18] H := fun d =>
    (seq_asg (d := .tup [tN [2, 3, 6], dN 6]) (mTup_ok (mCons_ok (mTup_ok (ds := [dN 2, dN 3, dN 6]) (mCons_ok rfl (mCons_ok rfl (mCons_ok rfl rfl))) (by simp)) (mCons_ok rfl rfl)) (by simp)) rfl).trans rfl
  cases hl : leastF ms with
  | none =>
    rw [hl] at step
    exact ⟨_, _, ch236, fun r => (step _).trans (seq_then (or_t (bin_ok (var_ok rfl _) rfl rfl)) (other _))⟩
  | some l =>
    rw [hl] at step
    have cnd : mOr (mBin fIs (mVar 3) (mC .non)) (mBin fGt (mVar 3) (mC (.int 60))) [a0, a1, some (tN ms), some (dN l), a4, a5, a6, a7, a8, a9, a10, a11, a12, a13, a14, a15, a16, a17, a18] H = .ok (.bl (decide ((60 : Int) < (l : Int)))) H := or_f (bin_ok (var_ok rfl _) rfl rfl) (bin_ok (var_ok rfl _) rfl (fGt_int _ _ _))
    by_cases h : l ≤ 60
    · rw [decide_eq_false (by omega)] at cnd
      exact ⟨_, _, ch_of g hl h, fun r => (step _).trans (seq_chk cnd)⟩
    · rw [decide_eq_true (by omega)] at cnd
      exact ⟨_, _, ch236, fun r => (step _).trans (seq_then cnd (other _))⟩
theorem law_true (ns : List Int) (nl : ns.length ≤ 100000) : ∃ J : CH, m_law f__law_box f__law_marks f__law_least f__law_goes f__law_pick f__law_moves f__law_take f__law_run f__law_laid f_digit_logs f_digit_story f__law_bent f__law_back i_Digits i_Hands
    [some (.scr ns), none, none, none, none, none, none, none, none, none, none, none, none, none, none, none, none, none, none] [] = .rt (.bl true) J := by
  obtain ⟨g, r, e1, a1⟩ := box_ok (ns := ns) (k := 0) (h := []) (fun c m => by cases m) (by decide)
  generalize hb : ([] : CH).length = b at e1 a1
  generalize [] ++ [bC g r] = h1 at e1 a1
  obtain ⟨ms0, h2, e2, a2, gm⟩ := marks_ok a1
  have a2s : At h2 h2 b := a2.self
  obtain ⟨ms, l, ch, e3⟩ := chosen gm h2 (some (.scr ns)) (some (.cell b)) none none none none none none none none none none none none none none none
  obtain ⟨num, N, h3, e4, a3, kn, no⟩ := num_ok ch a2s (some (.scr ns)) none none none none none none none none none none none none none none none
  have a3s : At h3 h3 b := a3.self
  have cm := kn.cm
  have nb := kn.nb
  have fn : ∀ H : CH, fieldOf H cs_number "number" (dD ms N) = some (dN N) := fun H => fld_number H ms N
  have e6 := moves_ok (h := h3) (N := N) cm (by omega) a3.bx.low
  obtain ⟨p, h4, e8, a4, hp⟩ := a3s.draw (n := N) kn.n0 (Nat.lt_trans nb (by decide))
  have a4s : At h4 h4 b := a4.self
  obtain ⟨h5, b5, st, o6, o8, o12, o13, o14, o15, o16, e9, bx5, hs, sl⟩ := turns_ok (ns := ns) kn a4s hp nl (some (dN l)) (some num) none (some (dN N))
  have q1 := ask_logs (v := tN st) cm kn.n0 kn.big hp hs (by omega) rfl h5
  have ok := lgs_ok (N := N) (p := p) kn.all hs (by omega)
  have each : ∀ lg ∈ lgsOf ms N st p, lg.length ≤ 1000 := fun lg m => by have := lgs_each lg m; omega
  have hn := okMs_len cm
  have pl := plc_lt kn.go kn.all st p hp hs
  have t1 := tw_logs (p := plc ms N st p) (sm_logs cm ok) (by omega) (by rw [lgs_len]; omega) each h5
  obtain ⟨g6, r6, e11, a6⟩ := box_ok (ns := ns) (k := 41) bx5 (by decide)
  obtain ⟨x, h6, e12, a7, hx⟩ := a6.draw (n := 8) (by decide) (by decide)
  have a7s : At h6 h6 h5.length := a7.self
  have t0 := tw_nat (n := N) (by omega) h3
  -- the beginning
  have beg : ∀ r : MS, (sSeq (sAsg (mCall 2 f__law_box [] (mCons (mVar 0) (mCons (mC (.int 0)) mNil))) (gN 1)) (sSeq (sAsg (mCall 1 f__law_marks [] (mCons (mVar 1) mNil)) (gN 2)) (sSeq (sAsg (mCall 1 f__law_least [] (mCons (mVar 2) mNil)) (gN 3)) (sSeq (sIf (mOr (mBin fIs (mVar 3) (mC .non)) (mBin fGt (mVar 3) (mC (.int 60)))) (sSeq (sAsg (mTup (mCons (mTup (mCons (mC (.int 2)) (mCons (mC (.int 3)) (mCons (mC (.int 6)) mNil)))) (mCons (mC (.int 6)) mNil))) (gT 2 (gConss (gN 2) (gConss (gN 3) gNils)))) sNext) sNext) r))))
      [some (.scr ns), none, none, none, none, none, none, none, none, none, none, none, none, none, none, none, none, none, none] [] = r [some (.scr ns), some (.cell b), some (tN ms), some (dN l), none, none, none, none, none, none, none, none, none, none, none, none, none, none, none] h2 := fun r =>
    (seq_asg (call2 rfl rfl e1) (s1 := [some (.scr ns), some (.cell b), none, none, none, none, none, none, none, none, none, none, none, none, none, none, none, none, none]) rfl).trans ((seq_asg (call1 rfl e2) (s1 := [some (.scr ns), some (.cell b), some (tN ms0), none, none, none, none, none, none, none, none, none, none, none, none, none, none, none, none]) rfl).trans (e3 r))
  have fin : ∀ (H : CH) (o1 o11 o12 o15 o16 : Option D), (sSeq (sRet (mAnd (mBin fEqD (mCall 3 f_digit_logs [.int 0] (mCons (mVar 7) (mCons (mVar 10) mNil))) (mCall 3 f_digit_logs [] (mCons (mVar 7) (mCons (mVar 10) (mCons (mC (.int 0)) mNil))))) (mBin fEqD (mCall 3 f_digit_logs [] (mCons (mVar 7) (mCons (mTup mNil) (mCons (mVar 5) mNil)))) (mTup (mCons (mVar 5) (mCons (mBin fMul (mTup (mCons (mTup mNil) mNil)) (mCB cLen (mCons (mVar 2) mNil))) mNil)))))) sNext)
      [some (.scr ns), o1, some (tN ms), some (dN l), some num, some (dN p), o6, some (dD ms N), o8, some (movD ms N), some (tN st), o11, o12, o13, o14, o15, o16, none, none] H = .rt (.bl true) H := fun H o1 o11 o12 o15 o16 => seq_ret (last_ok kn hp hs sl rfl rfl rfl rfl)
  have cnd : mBin fEqD (mCall 2 f__law_take [] (mCons (mVar 1) (mCons (mC (.int 8)) mNil))) (mC (.int 0)) [some (.scr ns), some (.cell h5.length), some (tN ms), some (dN l), some num, some (dN p), o6, some (dD ms N), o8, some (movD ms N), some (tN st), none, o12, o13, o14, o15, o16, none, none] (h5 ++ [bC g6 r6]) = .ok (.bl (decide (x = 0))) h6 := bin_ok (call2 rfl rfl e12) rfl (fEq_d _ _)
  have mid : ∀ r : MS, (sSeq (sAsg (mIf (mCall 2 f__law_goes [] (mCons (mVar 2) (mCons (mBin fMul (mC (.int 6)) (mVar 3)) mNil))) (mCall 2 f__law_pick [] (mCons (mVar 1) (mCons (mLst (mCons (mC .non) (mCons (mVar 3) (mCons (mBin fMul (mC (.int 6)) (mVar 3)) mNil)))) mNil))) (mC .non)) (gN 4)) (sSeq (sPar 7 8 (mCons (mMake cDigits 2 i_Digits [] (mCons (mMake cHands 1 i_Hands [] (mCons (mVar 2) mNil)) (mCons (mVar 4) mNil))) (mCons (mIf (mBin fIs (mVar 4) (mC .non)) (mVar 3) (mVar 4)) mNil))) (sSeq (sPar 9 10 (mCons (mCall 2 f__law_moves [] (mCons (mVar 2) (mCons (mVar 8) mNil))) (mCons (mTup mNil) mNil))) (sSeq (sIf (mBin fNeD (mCB cRepr (mCons (mFld cs_number "number" (mVar 7)) mNil)) (mCB cRepr (mCons (mVar 8) mNil))) (sSeq (sRet (mC (.bl false))) sNext) sNext) (sSeq (sAsg (mCall 2 f__law_take [] (mCons (mVar 1) (mCons (mFld cs_number "number" (mVar 7)) mNil))) (gN 5)) r)))))
      [some (.scr ns), some (.cell b), some (tN ms), some (dN l), none, none, none, none, none, none, none, none, none, none, none, none, none, none, none] h2 = r [some (.scr ns), some (.cell b), some (tN ms), some (dN l), some num, some (dN p), none, some (dD ms N), some (dN N), some (movD ms N), some (tN []), none, none, none, none, none, none, none, none] h4 := fun r => by
    refine (seq_asg e4 (s1 := [some (.scr ns), some (.cell b), some (tN ms), some (dN l), some num, none, none, none, none, none, none, none, none, none, none, none, none, none, none]) rfl).trans ?_
    refine (seq_nx (par_ok (digits_ok ch kn no (hands_ok cm (var_ok rfl _)) (var_ok rfl _)) (due_ok no rfl rfl) (s1 := [some (.scr ns), some (.cell b), some (tN ms), some (dN l), some num, none, none, some (dD ms N), some (dN N), none, none, none, none, none, none, none, none, none, none]) rfl)).trans ?_
    refine (seq_nx (par_ok (call2 (var_ok rfl _) (var_ok rfl _) e6) (mTup_ok (ds := []) rfl (by simp)) (s1 := [some (.scr ns), some (.cell b), some (tN ms), some (dN l), some num, none, none, some (dD ms N), some (dN N), some (movD ms N), some (tN []), none, none, none, none, none, none, none, none]) rfl)).trans ?_
    refine (seq_chk (chk_repr (fld_ok (var_ok rfl _) (fn _)) (var_ok rfl _) t0)).trans ?_
    exact seq_asg (call2 rfl (fld_ok (var_ok rfl _) (fn _)) e8) rfl
  unfold m_law
  by_cases x0 : x = 0
  · rw [decide_eq_true x0] at cnd
    obtain ⟨H', o11, o12', o15', o16', e13, _⟩ := long_ok (p := p) kn a7s hp (some (.scr ns)) (some (dN l)) (some num) o6 o8 (some (tN st)) none o12 o13 o14 o15 o16 none none
    refine ⟨H', (beg _).trans ((mid _).trans ?_)⟩
    refine (seq_nx e9).trans ?_
    refine (seq_chk (chk_ne (callK3 rfl rfl rfl q1) (call3 rfl rfl rfl q1) t1)).trans ?_
    refine (seq_asg (call2 rfl rfl e11) (s1 := [some (.scr ns), some (.cell h5.length), some (tN ms), some (dN l), some num, some (dN p), o6, some (dD ms N), o8, some (movD ms N), some (tN st), none, o12, o13, o14, o15, o16, none, none]) rfl).trans ?_
    refine (seq_then cnd e13).trans ?_
    exact fin _ _ _ _ _ _
  · rw [decide_eq_false x0] at cnd
    refine ⟨h6, (beg _).trans ((mid _).trans ?_)⟩
    refine (seq_nx e9).trans ?_
    refine (seq_chk (chk_ne (callK3 rfl rfl rfl q1) (call3 rfl rfl rfl q1) t1)).trans ?_
    refine (seq_asg (call2 rfl rfl e11) (s1 := [some (.scr ns), some (.cell h5.length), some (tN ms), some (dN l), some num, some (dN p), o6, some (dD ms N), o8, some (movD ms N), some (tN st), none, o12, o13, o14, o15, o16, none, none]) rfl).trans ?_
    refine (seq_chk cnd).trans ?_
    exact fin _ _ _ _ _ _
theorem law_val (ns : List Int) (nl : ns.length ≤ 100000) : f_law [.scr ns] [] = .ok (.bl true) [] := by
  obtain ⟨J, e⟩ := law_true ns nl
  exact cut_rt (h := []) (hh := []) (j := J) (d := .bl true) e rfl rfl (by simp)
end K16

set_option Elab.async false
set_option linter.all false
set_option maxRecDepth 100000
set_option maxHeartbeats 0
set_option exponentiation.threshold 10000
namespace K16
open PySem PySem.Spec PyProof.Rows L2 Py
/-! ### the head: facts by names, the run -/
abbrev hR : PySem.W.OpenRow := PySem.W.OpenLaw.row PySem.Challenge.rw_logsapart_k16_whole_stories_in_digits
def hd_is_integer : He.DefD := ⟨("is_integer", none), "is_integer", "is_integer", defArgs s_is_integer, defBody s_is_integer, defScope s_is_integer, [], []⟩
def hd_is_number : He.DefD := ⟨("is_number", none), "is_number", "is_number", defArgs s_is_number, defBody s_is_number, defScope s_is_number, [], []⟩
def hd_is_below : He.DefD := ⟨("is_below", none), "is_below", "is_below", defArgs s_is_below, defBody s_is_below, defScope s_is_below, [], []⟩
def hd_is_within : He.DefD := ⟨("is_within", none), "is_within", "is_within", defArgs s_is_within, defBody s_is_within, defScope s_is_within, [], []⟩
def hd_is_sequence : He.DefD := ⟨("is_sequence", none), "is_sequence", "is_sequence", defArgs s_is_sequence, defBody s_is_sequence, defScope s_is_sequence, [], []⟩
def hd_common_divisor : He.DefD := ⟨("common_divisor", none), "common_divisor", "common_divisor", defArgs s_common_divisor, defBody s_common_divisor, defScope s_common_divisor, [], []⟩
def hd_common_multiple : He.DefD := ⟨("common_multiple", none), "common_multiple", "common_multiple", defArgs s_common_multiple, defBody s_common_multiple, defScope s_common_multiple, [], []⟩
def hd_least_terms : He.DefD := ⟨("least_terms", none), "least_terms", "least_terms", defArgs s_least_terms, defBody s_least_terms, defScope s_least_terms, [], []⟩
def hd_check_marks : He.DefD := ⟨("check_marks", none), "check_marks", "check_marks", defArgs s_check_marks, defBody s_check_marks, defScope s_check_marks, [], []⟩
def hd_Hands_init : He.DefD := ⟨("Hands", some "__init__"), "__init__", "Hands.__init__", defArgs s_Hands_init, defBody s_Hands_init, defScope s_Hands_init, [], []⟩
def hd_sum_of_parts : He.DefD := ⟨("sum_of_parts", none), "sum_of_parts", "sum_of_parts", defArgs s_sum_of_parts, defBody s_sum_of_parts, defScope s_sum_of_parts, [], []⟩
def hd_share : He.DefD := ⟨("share", none), "share", "share", defArgs s_share, defBody s_share, defScope s_share, [], []⟩
def hd_need_telling : He.DefD := ⟨("need_telling", none), "need_telling", "need_telling", defArgs s_need_telling, defBody s_need_telling, defScope s_need_telling, [], []⟩
def hd_check_story : He.DefD := ⟨("check_story", none), "check_story", "check_story", defArgs s_check_story, defBody s_check_story, defScope s_check_story, [], []⟩
def hd_laid_out : He.DefD := ⟨("laid_out", none), "laid_out", "laid_out", defArgs s_laid_out, defBody s_laid_out, defScope s_laid_out, [], []⟩
def hd_stretch_with : He.DefD := ⟨("stretch_with", none), "stretch_with", "stretch_with", defArgs s_stretch_with, defBody s_stretch_with, defScope s_stretch_with, [], []⟩
def hd_is_log : He.DefD := ⟨("is_log", none), "is_log", "is_log", defArgs s_is_log, defBody s_is_log, defScope s_is_log, [], []⟩
def hd_check_logs : He.DefD := ⟨("check_logs", none), "check_logs", "check_logs", defArgs s_check_logs, defBody s_check_logs, defScope s_check_logs, [], []⟩
def hd_stretch_sizes : He.DefD := ⟨("stretch_sizes", none), "stretch_sizes", "stretch_sizes", defArgs s_stretch_sizes, defBody s_stretch_sizes, defScope s_stretch_sizes, [], []⟩
def hd_least_number : He.DefD := ⟨("least_number", none), "least_number", "least_number", defArgs s_least_number, defBody s_least_number, defScope s_least_number, [], []⟩
def hd_Digits_init : He.DefD := ⟨("Digits", some "__init__"), "__init__", "Digits.__init__", defArgs s_Digits_init, defBody s_Digits_init, defScope s_Digits_init, [.non], []⟩
def hd_need_place : He.DefD := ⟨("need_place", none), "need_place", "need_place", defArgs s_need_place, defBody s_need_place, defScope s_need_place, [], []⟩
def hd_step_on : He.DefD := ⟨("step_on", none), "step_on", "step_on", defArgs s_step_on, defBody s_step_on, defScope s_step_on, [], []⟩
def hd_place_ahead : He.DefD := ⟨("place_ahead", none), "place_ahead", "place_ahead", defArgs s_place_ahead, defBody s_place_ahead, defScope s_place_ahead, [], []⟩
def hd_digit_logs : He.DefD := ⟨("digit_logs", none), "digit_logs", "digit_logs", defArgs s_digit_logs, defBody s_digit_logs, defScope s_digit_logs, [.int (0)], []⟩
def hd_struck_digits : He.DefD := ⟨("struck_digits", none), "struck_digits", "struck_digits", defArgs s_struck_digits, defBody s_struck_digits, defScope s_struck_digits, [], []⟩
def hd_digit_story : He.DefD := ⟨("digit_story", none), "digit_story", "digit_story", defArgs s_digit_story, defBody s_digit_story, defScope s_digit_story, [], []⟩
def hd__law_box : He.DefD := ⟨("_law_box", none), "_law_box", "_law_box", defArgs s__law_box, defBody s__law_box, defScope s__law_box, [], []⟩
def hd__law_take : He.DefD := ⟨("_law_take", none), "_law_take", "_law_take", defArgs s__law_take, defBody s__law_take, defScope s__law_take, [], []⟩
def hd__law_pick : He.DefD := ⟨("_law_pick", none), "_law_pick", "_law_pick", defArgs s__law_pick, defBody s__law_pick, defScope s__law_pick, [], []⟩
def hd__law_share : He.DefD := ⟨("_law_share", none), "_law_share", "_law_share", defArgs s__law_share, defBody s__law_share, defScope s__law_share, [], []⟩
def hd__law_tells : He.DefD := ⟨("_law_tells", none), "_law_tells", "_law_tells", defArgs s__law_tells, defBody s__law_tells, defScope s__law_tells, [], []⟩
def hd__law_marks : He.DefD := ⟨("_law_marks", none), "_law_marks", "_law_marks", defArgs s__law_marks, defBody s__law_marks, defScope s__law_marks, [], []⟩
def hd__law_stretches : He.DefD := ⟨("_law_stretches", none), "_law_stretches", "_law_stretches", defArgs s__law_stretches, defBody s__law_stretches, defScope s__law_stretches, [], []⟩
def hd__law_goes : He.DefD := ⟨("_law_goes", none), "_law_goes", "_law_goes", defArgs s__law_goes, defBody s__law_goes, defScope s__law_goes, [], []⟩
def hd__law_least : He.DefD := ⟨("_law_least", none), "_law_least", "_law_least", defArgs s__law_least, defBody s__law_least, defScope s__law_least, [], []⟩
def hd__law_moves : He.DefD := ⟨("_law_moves", none), "_law_moves", "_law_moves", defArgs s__law_moves, defBody s__law_moves, defScope s__law_moves, [], []⟩
def hd__law_run : He.DefD := ⟨("_law_run", none), "_law_run", "_law_run", defArgs s__law_run, defBody s__law_run, defScope s__law_run, [], []⟩
def hd__law_laid : He.DefD := ⟨("_law_laid", none), "_law_laid", "_law_laid", defArgs s__law_laid, defBody s__law_laid, defScope s__law_laid, [], []⟩
def hd__law_back : He.DefD := ⟨("_law_back", none), "_law_back", "_law_back", defArgs s__law_back, defBody s__law_back, defScope s__law_back, [], []⟩
def hd__law_bent : He.DefD := ⟨("_law_bent", none), "_law_bent", "_law_bent", defArgs s__law_bent, defBody s__law_bent, defScope s__law_bent, [], []⟩
def hd_law : He.DefD := ⟨("law", none), "law", "law", defArgs s_law, defBody s_law, defScope s_law, [], []⟩
def hfn0 : List He.DefD := [hd_is_integer, hd_is_number, hd_is_below, hd_is_within, hd_is_sequence, hd_common_divisor, hd_common_multiple, hd_least_terms, hd_check_marks, hd_Hands_init, hd_sum_of_parts, hd_share, hd_need_telling, hd_check_story, hd_laid_out, hd_stretch_with, hd_is_log, hd_check_logs, hd_stretch_sizes, hd_least_number, hd_Digits_init, hd_need_place, hd_step_on, hd_place_ahead, hd_digit_logs, hd_struck_digits, hd_digit_story, hd__law_box, hd__law_take, hd__law_pick]
def hfn1 : List He.DefD := [hd__law_share, hd__law_tells, hd__law_marks, hd__law_stretches, hd__law_goes, hd__law_least, hd__law_moves, hd__law_run, hd__law_laid, hd__law_back, hd__law_bent, hd_law]
def hfn : List He.DefD := hfn0 ++ hfn1
def hfa0 : List He.Fa := [.free "abs", .free "all", .free "any", .free "bool", .free "enumerate", .free "int", .free "isinstance", .free "len", .free "list", .free "max", .free "min", .free "range", .free "repr", .free "reversed", .free "sum", .free "tuple", .free "zip", .int "MOST_HANDS" 8, .int "MOST_MARKS" 60, .int "MOST_STORY" 10000, .cls "Digits", .noat "Digits" "hands", .cls "Hands", .noat "Hands" "many", .noat "Hands" "marks", .noat "Digits" "number", .noat "Digits" "stretches", .glo "is_integer", .glo "is_number", .glo "is_below"]
def hfa1 : List He.Fa := [.glo "is_within", .glo "is_sequence", .glo "common_divisor", .glo "common_multiple", .glo "least_terms", .glo "check_marks", .glo "sum_of_parts", .glo "share", .glo "need_telling", .glo "check_story", .glo "laid_out", .glo "stretch_with", .glo "is_log", .glo "check_logs", .glo "stretch_sizes", .glo "least_number", .glo "need_place", .glo "step_on", .glo "place_ahead", .glo "digit_logs", .glo "struck_digits", .glo "digit_story", .glo "_law_box", .glo "_law_take", .glo "_law_pick", .glo "_law_share", .glo "_law_tells", .glo "_law_marks", .glo "_law_stretches", .glo "_law_goes"]
def hfa2 : List He.Fa := [.glo "_law_least", .glo "_law_moves", .glo "_law_run", .glo "_law_laid", .glo "_law_back", .glo "_law_bent", .glo "Digits", .mkr "Digits", .glo "Hands", .mkr "Hands", .glo "law"]
def hfa_ : List He.Fa := hfa0 ++ hfa1 ++ hfa2
abbrev hk : PySem.W.Hook := He.hookD 5 hfa_ hfn
def hob (s : PySem.W.SharedT) : He.AlD := He.obsDG 5 hfa_ hfn (HandSHeadRun.getT s)
theorem hob_eq (s : PySem.W.SharedT) : hob s = hk.obs s.abs := He.obsDG_eq (HandSHeadRun.getT_eq s)
def hlo0 : List Str := ["LogError", "BadHands", "BadStory", "BadLogs", "Refused", "NoTelling", "MOST_HANDS", "MOST_MARKS", "MOST_STORY", "is_integer", "is_number", "is_below", "is_within", "is_sequence", "common_divisor", "common_multiple", "least_terms", "check_marks", "Hands", "sum_of_parts", "share", "need_telling", "check_story", "laid_out", "stretch_with", "is_log", "check_logs", "stretch_sizes", "least_number", "Digits"]
def hlo1 : List Str := ["need_place", "step_on", "place_ahead", "digit_logs", "struck_digits", "digit_story", "_law_box", "_law_take", "_law_pick", "_law_share", "_law_tells", "_law_marks", "_law_story", "_law_stretches", "_law_goes", "_law_least", "_law_moves", "_law_run", "_law_laid", "_law_back", "_law_bent"]
def hlo : List Str := hlo0 ++ hlo1
theorem hrun (w : World) : HandSHeadRun.RunEq hR (PySem.W.view hR.prog [58]) hk hob 40000 hlo w := by
  intro os
  kernel_rfl
def hT (K : PySem.W.Frag) : Tab := { cls := fun n => match n with | 0 => He.ga K "Hands" | 1 => He.ga K "Digits" | _ => 0, fns := fun _ => 0, hid := [] }
theorem all_mk {P : Program} {w : World} {K : PySem.W.Frag} {h : Heap} {mg : Str → Option Value} {f : Addr} (X : K.In h) (G : h.Ns mainGlobals mg) (hfa : mg ("law" : Str) = some (.ref f)) (c : He.SaysD hfa_ hfn K) :
    ∃ fd : FuncData, (∀ (s : Shared) (v : Value), BindsTo s fd ⟨[v], []⟩ [("_law_script", v)]) ∧ ∀ base : Heap, K.In base → base.Ns mainGlobals mg → FnG P w K mg base (L2.CX P w) 8 f fd ["_law_script"] (spM (hT K) K 1 f_law) := by
  obtain ⟨e_is_integer, D_is_integer⟩ : ∃ fd, FunD K "is_integer" "is_integer" (defArgs s_is_integer) (defBody s_is_integer) (defScope s_is_integer) [] [] (He.ga K "is_integer") fd := c.def_ 0 (d := hd_is_integer) rfl
  have b_is_integer : Binds K e_is_integer ["value"] [] := D_is_integer.bindsN fun _ _ _ _ _ _ us hl => match us, hl with | [_], _ => rfl
  have m_is_integer : mg "is_integer" = some (.ref (He.ga K "is_integer")) := He.glo_ok X G (c.fact 27 (f := .glo "is_integer") rfl)
  obtain ⟨e_is_number, D_is_number⟩ : ∃ fd, FunD K "is_number" "is_number" (defArgs s_is_number) (defBody s_is_number) (defScope s_is_number) [] [] (He.ga K "is_number") fd := c.def_ 1 (d := hd_is_number) rfl
  have b_is_number : Binds K e_is_number ["value"] [] := D_is_number.bindsN fun _ _ _ _ _ _ us hl => match us, hl with | [_], _ => rfl
  have m_is_number : mg "is_number" = some (.ref (He.ga K "is_number")) := He.glo_ok X G (c.fact 28 (f := .glo "is_number") rfl)
  obtain ⟨e_is_below, D_is_below⟩ : ∃ fd, FunD K "is_below" "is_below" (defArgs s_is_below) (defBody s_is_below) (defScope s_is_below) [] [] (He.ga K "is_below") fd := c.def_ 2 (d := hd_is_below) rfl
  have b_is_below : Binds K e_is_below ["value", "most"] [] := D_is_below.bindsN fun _ _ _ _ _ _ us hl => match us, hl with | [_, _], _ => rfl
  have m_is_below : mg "is_below" = some (.ref (He.ga K "is_below")) := He.glo_ok X G (c.fact 29 (f := .glo "is_below") rfl)
  obtain ⟨e_is_within, D_is_within⟩ : ∃ fd, FunD K "is_within" "is_within" (defArgs s_is_within) (defBody s_is_within) (defScope s_is_within) [] [] (He.ga K "is_within") fd := c.def_ 3 (d := hd_is_within) rfl
  have b_is_within : Binds K e_is_within ["value", "least", "most"] [] := D_is_within.bindsN fun _ _ _ _ _ _ us hl => match us, hl with | [_, _, _], _ => rfl
  have m_is_within : mg "is_within" = some (.ref (He.ga K "is_within")) := He.glo_ok X G (c.fact 30 (f := .glo "is_within") rfl)
  obtain ⟨e_is_sequence, D_is_sequence⟩ : ∃ fd, FunD K "is_sequence" "is_sequence" (defArgs s_is_sequence) (defBody s_is_sequence) (defScope s_is_sequence) [] [] (He.ga K "is_sequence") fd := c.def_ 4 (d := hd_is_sequence) rfl
  have b_is_sequence : Binds K e_is_sequence ["value"] [] := D_is_sequence.bindsN fun _ _ _ _ _ _ us hl => match us, hl with | [_], _ => rfl
  have m_is_sequence : mg "is_sequence" = some (.ref (He.ga K "is_sequence")) := He.glo_ok X G (c.fact 31 (f := .glo "is_sequence") rfl)
  obtain ⟨e_common_divisor, D_common_divisor⟩ : ∃ fd, FunD K "common_divisor" "common_divisor" (defArgs s_common_divisor) (defBody s_common_divisor) (defScope s_common_divisor) [] [] (He.ga K "common_divisor") fd := c.def_ 5 (d := hd_common_divisor) rfl
  have b_common_divisor : Binds K e_common_divisor ["one", "other"] [] := D_common_divisor.bindsN fun _ _ _ _ _ _ us hl => match us, hl with | [_, _], _ => rfl
  have m_common_divisor : mg "common_divisor" = some (.ref (He.ga K "common_divisor")) := He.glo_ok X G (c.fact 32 (f := .glo "common_divisor") rfl)
  obtain ⟨e_common_multiple, D_common_multiple⟩ : ∃ fd, FunD K "common_multiple" "common_multiple" (defArgs s_common_multiple) (defBody s_common_multiple) (defScope s_common_multiple) [] [] (He.ga K "common_multiple") fd := c.def_ 6 (d := hd_common_multiple) rfl
  have b_common_multiple : Binds K e_common_multiple ["one", "other"] [] := D_common_multiple.bindsN fun _ _ _ _ _ _ us hl => match us, hl with | [_, _], _ => rfl
  have m_common_multiple : mg "common_multiple" = some (.ref (He.ga K "common_multiple")) := He.glo_ok X G (c.fact 33 (f := .glo "common_multiple") rfl)
  obtain ⟨e_least_terms, D_least_terms⟩ : ∃ fd, FunD K "least_terms" "least_terms" (defArgs s_least_terms) (defBody s_least_terms) (defScope s_least_terms) [] [] (He.ga K "least_terms") fd := c.def_ 7 (d := hd_least_terms) rfl
  have b_least_terms : Binds K e_least_terms ["top", "bottom"] [] := D_least_terms.bindsN fun _ _ _ _ _ _ us hl => match us, hl with | [_, _], _ => rfl
  have m_least_terms : mg "least_terms" = some (.ref (He.ga K "least_terms")) := He.glo_ok X G (c.fact 34 (f := .glo "least_terms") rfl)
  obtain ⟨e_check_marks, D_check_marks⟩ : ∃ fd, FunD K "check_marks" "check_marks" (defArgs s_check_marks) (defBody s_check_marks) (defScope s_check_marks) [] [] (He.ga K "check_marks") fd := c.def_ 8 (d := hd_check_marks) rfl
  have b_check_marks : Binds K e_check_marks ["value"] [] := D_check_marks.bindsN fun _ _ _ _ _ _ us hl => match us, hl with | [_], _ => rfl
  have m_check_marks : mg "check_marks" = some (.ref (He.ga K "check_marks")) := He.glo_ok X G (c.fact 35 (f := .glo "check_marks") rfl)
  obtain ⟨e_Hands_init, D_Hands_init⟩ : ∃ fd, FunD K "__init__" "Hands.__init__" (defArgs s_Hands_init) (defBody s_Hands_init) (defScope s_Hands_init) [] [] (He.ma K (He.ga K "Hands") "__init__") fd := c.def_ 9 (d := hd_Hands_init) rfl
  have b_Hands_init : Binds K e_Hands_init ["self", "marks"] [] := D_Hands_init.bindsN fun _ _ _ _ _ _ us hl => match us, hl with | [_, _], _ => rfl
  obtain ⟨e_sum_of_parts, D_sum_of_parts⟩ : ∃ fd, FunD K "sum_of_parts" "sum_of_parts" (defArgs s_sum_of_parts) (defBody s_sum_of_parts) (defScope s_sum_of_parts) [] [] (He.ga K "sum_of_parts") fd := c.def_ 10 (d := hd_sum_of_parts) rfl
  have b_sum_of_parts : Binds K e_sum_of_parts ["marks"] [] := D_sum_of_parts.bindsN fun _ _ _ _ _ _ us hl => match us, hl with | [_], _ => rfl
  have m_sum_of_parts : mg "sum_of_parts" = some (.ref (He.ga K "sum_of_parts")) := He.glo_ok X G (c.fact 36 (f := .glo "sum_of_parts") rfl)
  obtain ⟨e_share, D_share⟩ : ∃ fd, FunD K "share" "share" (defArgs s_share) (defBody s_share) (defScope s_share) [] [] (He.ga K "share") fd := c.def_ 11 (d := hd_share) rfl
  have b_share : Binds K e_share ["hands"] [] := D_share.bindsN fun _ _ _ _ _ _ us hl => match us, hl with | [_], _ => rfl
  have m_share : mg "share" = some (.ref (He.ga K "share")) := He.glo_ok X G (c.fact 37 (f := .glo "share") rfl)
  obtain ⟨e_need_telling, D_need_telling⟩ : ∃ fd, FunD K "need_telling" "need_telling" (defArgs s_need_telling) (defBody s_need_telling) (defScope s_need_telling) [] [] (He.ga K "need_telling") fd := c.def_ 12 (d := hd_need_telling) rfl
  have b_need_telling : Binds K e_need_telling ["hands"] [] := D_need_telling.bindsN fun _ _ _ _ _ _ us hl => match us, hl with | [_], _ => rfl
  have m_need_telling : mg "need_telling" = some (.ref (He.ga K "need_telling")) := He.glo_ok X G (c.fact 38 (f := .glo "need_telling") rfl)
  obtain ⟨e_check_story, D_check_story⟩ : ∃ fd, FunD K "check_story" "check_story" (defArgs s_check_story) (defBody s_check_story) (defScope s_check_story) [] [] (He.ga K "check_story") fd := c.def_ 13 (d := hd_check_story) rfl
  have b_check_story : Binds K e_check_story ["hands", "value"] [] := D_check_story.bindsN fun _ _ _ _ _ _ us hl => match us, hl with | [_, _], _ => rfl
  have m_check_story : mg "check_story" = some (.ref (He.ga K "check_story")) := He.glo_ok X G (c.fact 39 (f := .glo "check_story") rfl)
  obtain ⟨e_laid_out, D_laid_out⟩ : ∃ fd, FunD K "laid_out" "laid_out" (defArgs s_laid_out) (defBody s_laid_out) (defScope s_laid_out) [] [] (He.ga K "laid_out") fd := c.def_ 14 (d := hd_laid_out) rfl
  have b_laid_out : Binds K e_laid_out ["sizes"] [] := D_laid_out.bindsN fun _ _ _ _ _ _ us hl => match us, hl with | [_], _ => rfl
  have m_laid_out : mg "laid_out" = some (.ref (He.ga K "laid_out")) := He.glo_ok X G (c.fact 40 (f := .glo "laid_out") rfl)
  obtain ⟨e_stretch_with, D_stretch_with⟩ : ∃ fd, FunD K "stretch_with" "stretch_with" (defArgs s_stretch_with) (defBody s_stretch_with) (defScope s_stretch_with) [] [] (He.ga K "stretch_with") fd := c.def_ 15 (d := hd_stretch_with) rfl
  have b_stretch_with : Binds K e_stretch_with ["stretches", "place"] [] := D_stretch_with.bindsN fun _ _ _ _ _ _ us hl => match us, hl with | [_, _], _ => rfl
  have m_stretch_with : mg "stretch_with" = some (.ref (He.ga K "stretch_with")) := He.glo_ok X G (c.fact 41 (f := .glo "stretch_with") rfl)
  obtain ⟨e_is_log, D_is_log⟩ : ∃ fd, FunD K "is_log" "is_log" (defArgs s_is_log) (defBody s_is_log) (defScope s_is_log) [] [] (He.ga K "is_log") fd := c.def_ 16 (d := hd_is_log) rfl
  have b_is_log : Binds K e_is_log ["value", "marks"] [] := D_is_log.bindsN fun _ _ _ _ _ _ us hl => match us, hl with | [_, _], _ => rfl
  have m_is_log : mg "is_log" = some (.ref (He.ga K "is_log")) := He.glo_ok X G (c.fact 42 (f := .glo "is_log") rfl)
  obtain ⟨e_check_logs, D_check_logs⟩ : ∃ fd, FunD K "check_logs" "check_logs" (defArgs s_check_logs) (defBody s_check_logs) (defScope s_check_logs) [] [] (He.ga K "check_logs") fd := c.def_ 17 (d := hd_check_logs) rfl
  have b_check_logs : Binds K e_check_logs ["hands", "value"] [] := D_check_logs.bindsN fun _ _ _ _ _ _ us hl => match us, hl with | [_, _], _ => rfl
  have m_check_logs : mg "check_logs" = some (.ref (He.ga K "check_logs")) := He.glo_ok X G (c.fact 43 (f := .glo "check_logs") rfl)
  obtain ⟨e_stretch_sizes, D_stretch_sizes⟩ : ∃ fd, FunD K "stretch_sizes" "stretch_sizes" (defArgs s_stretch_sizes) (defBody s_stretch_sizes) (defScope s_stretch_sizes) [] [] (He.ga K "stretch_sizes") fd := c.def_ 18 (d := hd_stretch_sizes) rfl
  have b_stretch_sizes : Binds K e_stretch_sizes ["hands", "number"] [] := D_stretch_sizes.bindsN fun _ _ _ _ _ _ us hl => match us, hl with | [_, _], _ => rfl
  have m_stretch_sizes : mg "stretch_sizes" = some (.ref (He.ga K "stretch_sizes")) := He.glo_ok X G (c.fact 44 (f := .glo "stretch_sizes") rfl)
  obtain ⟨e_least_number, D_least_number⟩ : ∃ fd, FunD K "least_number" "least_number" (defArgs s_least_number) (defBody s_least_number) (defScope s_least_number) [] [] (He.ga K "least_number") fd := c.def_ 19 (d := hd_least_number) rfl
  have b_least_number : Binds K e_least_number ["hands"] [] := D_least_number.bindsN fun _ _ _ _ _ _ us hl => match us, hl with | [_], _ => rfl
  have m_least_number : mg "least_number" = some (.ref (He.ga K "least_number")) := He.glo_ok X G (c.fact 45 (f := .glo "least_number") rfl)
  obtain ⟨e_Digits_init, D_Digits_init⟩ : ∃ fd, FunD K "__init__" "Digits.__init__" (defArgs s_Digits_init) (defBody s_Digits_init) (defScope s_Digits_init) [V.non] [] (He.ma K (He.ga K "Digits") "__init__") fd := c.def_ 20 (d := hd_Digits_init) rfl
  obtain ⟨e_need_place, D_need_place⟩ : ∃ fd, FunD K "need_place" "need_place" (defArgs s_need_place) (defBody s_need_place) (defScope s_need_place) [] [] (He.ga K "need_place") fd := c.def_ 21 (d := hd_need_place) rfl
  have b_need_place : Binds K e_need_place ["digits", "place"] [] := D_need_place.bindsN fun _ _ _ _ _ _ us hl => match us, hl with | [_, _], _ => rfl
  have m_need_place : mg "need_place" = some (.ref (He.ga K "need_place")) := He.glo_ok X G (c.fact 46 (f := .glo "need_place") rfl)
  obtain ⟨e_step_on, D_step_on⟩ : ∃ fd, FunD K "step_on" "step_on" (defArgs s_step_on) (defBody s_step_on) (defScope s_step_on) [] [] (He.ga K "step_on") fd := c.def_ 22 (d := hd_step_on) rfl
  have b_step_on : Binds K e_step_on ["digits", "place", "hand"] [] := D_step_on.bindsN fun _ _ _ _ _ _ us hl => match us, hl with | [_, _, _], _ => rfl
  have m_step_on : mg "step_on" = some (.ref (He.ga K "step_on")) := He.glo_ok X G (c.fact 47 (f := .glo "step_on") rfl)
  obtain ⟨e_place_ahead, D_place_ahead⟩ : ∃ fd, FunD K "place_ahead" "place_ahead" (defArgs s_place_ahead) (defBody s_place_ahead) (defScope s_place_ahead) [] [] (He.ga K "place_ahead") fd := c.def_ 23 (d := hd_place_ahead) rfl
  have b_place_ahead : Binds K e_place_ahead ["digits", "place", "hand", "mark"] [] := D_place_ahead.bindsN fun _ _ _ _ _ _ us hl => match us, hl with | [_, _, _, _], _ => rfl
  have m_place_ahead : mg "place_ahead" = some (.ref (He.ga K "place_ahead")) := He.glo_ok X G (c.fact 48 (f := .glo "place_ahead") rfl)
  obtain ⟨e_digit_logs, D_digit_logs⟩ : ∃ fd, FunD K "digit_logs" "digit_logs" (defArgs s_digit_logs) (defBody s_digit_logs) (defScope s_digit_logs) [(V.int (0))] [] (He.ga K "digit_logs") fd := c.def_ 24 (d := hd_digit_logs) rfl
  have m_digit_logs : mg "digit_logs" = some (.ref (He.ga K "digit_logs")) := He.glo_ok X G (c.fact 49 (f := .glo "digit_logs") rfl)
  obtain ⟨e_struck_digits, D_struck_digits⟩ : ∃ fd, FunD K "struck_digits" "struck_digits" (defArgs s_struck_digits) (defBody s_struck_digits) (defScope s_struck_digits) [] [] (He.ga K "struck_digits") fd := c.def_ 25 (d := hd_struck_digits) rfl
  have b_struck_digits : Binds K e_struck_digits ["digits", "place", "logs"] [] := D_struck_digits.bindsN fun _ _ _ _ _ _ us hl => match us, hl with | [_, _, _], _ => rfl
  have m_struck_digits : mg "struck_digits" = some (.ref (He.ga K "struck_digits")) := He.glo_ok X G (c.fact 50 (f := .glo "struck_digits") rfl)
  obtain ⟨e_digit_story, D_digit_story⟩ : ∃ fd, FunD K "digit_story" "digit_story" (defArgs s_digit_story) (defBody s_digit_story) (defScope s_digit_story) [] [] (He.ga K "digit_story") fd := c.def_ 26 (d := hd_digit_story) rfl
  have b_digit_story : Binds K e_digit_story ["digits", "place", "logs"] [] := D_digit_story.bindsN fun _ _ _ _ _ _ us hl => match us, hl with | [_, _, _], _ => rfl
  have m_digit_story : mg "digit_story" = some (.ref (He.ga K "digit_story")) := He.glo_ok X G (c.fact 51 (f := .glo "digit_story") rfl)
  obtain ⟨e__law_box, D__law_box⟩ : ∃ fd, FunD K "_law_box" "_law_box" (defArgs s__law_box) (defBody s__law_box) (defScope s__law_box) [] [] (He.ga K "_law_box") fd := c.def_ 27 (d := hd__law_box) rfl
  have b__law_box : Binds K e__law_box ["_law_script", "_law_k"] [] := D__law_box.bindsN fun _ _ _ _ _ _ us hl => match us, hl with | [_, _], _ => rfl
  have m__law_box : mg "_law_box" = some (.ref (He.ga K "_law_box")) := He.glo_ok X G (c.fact 52 (f := .glo "_law_box") rfl)
  obtain ⟨e__law_take, D__law_take⟩ : ∃ fd, FunD K "_law_take" "_law_take" (defArgs s__law_take) (defBody s__law_take) (defScope s__law_take) [] [] (He.ga K "_law_take") fd := c.def_ 28 (d := hd__law_take) rfl
  have b__law_take : Binds K e__law_take ["_law_box_here", "_law_many"] [] := D__law_take.bindsN fun _ _ _ _ _ _ us hl => match us, hl with | [_, _], _ => rfl
  have m__law_take : mg "_law_take" = some (.ref (He.ga K "_law_take")) := He.glo_ok X G (c.fact 53 (f := .glo "_law_take") rfl)
  obtain ⟨e__law_pick, D__law_pick⟩ : ∃ fd, FunD K "_law_pick" "_law_pick" (defArgs s__law_pick) (defBody s__law_pick) (defScope s__law_pick) [] [] (He.ga K "_law_pick") fd := c.def_ 29 (d := hd__law_pick) rfl
  have b__law_pick : Binds K e__law_pick ["_law_box_here", "_law_some"] [] := D__law_pick.bindsN fun _ _ _ _ _ _ us hl => match us, hl with | [_, _], _ => rfl
  have m__law_pick : mg "_law_pick" = some (.ref (He.ga K "_law_pick")) := He.glo_ok X G (c.fact 54 (f := .glo "_law_pick") rfl)
  obtain ⟨e__law_share, D__law_share⟩ : ∃ fd, FunD K "_law_share" "_law_share" (defArgs s__law_share) (defBody s__law_share) (defScope s__law_share) [] [] (He.ga K "_law_share") fd := c.def_ 30 (d := hd__law_share) rfl
  have b__law_share : Binds K e__law_share ["_law_marks_here"] [] := D__law_share.bindsN fun _ _ _ _ _ _ us hl => match us, hl with | [_], _ => rfl
  have m__law_share : mg "_law_share" = some (.ref (He.ga K "_law_share")) := He.glo_ok X G (c.fact 55 (f := .glo "_law_share") rfl)
  obtain ⟨e__law_tells, D__law_tells⟩ : ∃ fd, FunD K "_law_tells" "_law_tells" (defArgs s__law_tells) (defBody s__law_tells) (defScope s__law_tells) [] [] (He.ga K "_law_tells") fd := c.def_ 31 (d := hd__law_tells) rfl
  have b__law_tells : Binds K e__law_tells ["_law_marks_here"] [] := D__law_tells.bindsN fun _ _ _ _ _ _ us hl => match us, hl with | [_], _ => rfl
  have m__law_tells : mg "_law_tells" = some (.ref (He.ga K "_law_tells")) := He.glo_ok X G (c.fact 56 (f := .glo "_law_tells") rfl)
  obtain ⟨e__law_marks, D__law_marks⟩ : ∃ fd, FunD K "_law_marks" "_law_marks" (defArgs s__law_marks) (defBody s__law_marks) (defScope s__law_marks) [] [] (He.ga K "_law_marks") fd := c.def_ 32 (d := hd__law_marks) rfl
  have b__law_marks : Binds K e__law_marks ["_law_box_here"] [] := D__law_marks.bindsN fun _ _ _ _ _ _ us hl => match us, hl with | [_], _ => rfl
  have m__law_marks : mg "_law_marks" = some (.ref (He.ga K "_law_marks")) := He.glo_ok X G (c.fact 57 (f := .glo "_law_marks") rfl)
  obtain ⟨e__law_stretches, D__law_stretches⟩ : ∃ fd, FunD K "_law_stretches" "_law_stretches" (defArgs s__law_stretches) (defBody s__law_stretches) (defScope s__law_stretches) [] [] (He.ga K "_law_stretches") fd := c.def_ 33 (d := hd__law_stretches) rfl
  have b__law_stretches : Binds K e__law_stretches ["_law_marks_here", "_law_number"] [] := D__law_stretches.bindsN fun _ _ _ _ _ _ us hl => match us, hl with | [_, _], _ => rfl
  have m__law_stretches : mg "_law_stretches" = some (.ref (He.ga K "_law_stretches")) := He.glo_ok X G (c.fact 58 (f := .glo "_law_stretches") rfl)
  obtain ⟨e__law_goes, D__law_goes⟩ : ∃ fd, FunD K "_law_goes" "_law_goes" (defArgs s__law_goes) (defBody s__law_goes) (defScope s__law_goes) [] [] (He.ga K "_law_goes") fd := c.def_ 34 (d := hd__law_goes) rfl
  have b__law_goes : Binds K e__law_goes ["_law_marks_here", "_law_number"] [] := D__law_goes.bindsN fun _ _ _ _ _ _ us hl => match us, hl with | [_, _], _ => rfl
  have m__law_goes : mg "_law_goes" = some (.ref (He.ga K "_law_goes")) := He.glo_ok X G (c.fact 59 (f := .glo "_law_goes") rfl)
  obtain ⟨e__law_least, D__law_least⟩ : ∃ fd, FunD K "_law_least" "_law_least" (defArgs s__law_least) (defBody s__law_least) (defScope s__law_least) [] [] (He.ga K "_law_least") fd := c.def_ 35 (d := hd__law_least) rfl
  have b__law_least : Binds K e__law_least ["_law_marks_here"] [] := D__law_least.bindsN fun _ _ _ _ _ _ us hl => match us, hl with | [_], _ => rfl
  have m__law_least : mg "_law_least" = some (.ref (He.ga K "_law_least")) := He.glo_ok X G (c.fact 60 (f := .glo "_law_least") rfl)
  obtain ⟨e__law_moves, D__law_moves⟩ : ∃ fd, FunD K "_law_moves" "_law_moves" (defArgs s__law_moves) (defBody s__law_moves) (defScope s__law_moves) [] [] (He.ga K "_law_moves") fd := c.def_ 36 (d := hd__law_moves) rfl
  have b__law_moves : Binds K e__law_moves ["_law_marks_here", "_law_number"] [] := D__law_moves.bindsN fun _ _ _ _ _ _ us hl => match us, hl with | [_, _], _ => rfl
  have m__law_moves : mg "_law_moves" = some (.ref (He.ga K "_law_moves")) := He.glo_ok X G (c.fact 61 (f := .glo "_law_moves") rfl)
  obtain ⟨e__law_run, D__law_run⟩ : ∃ fd, FunD K "_law_run" "_law_run" (defArgs s__law_run) (defBody s__law_run) (defScope s__law_run) [] [] (He.ga K "_law_run") fd := c.def_ 37 (d := hd__law_run) rfl
  have b__law_run : Binds K e__law_run ["_law_moves_here", "_law_story_here", "_law_place"] [] := D__law_run.bindsN fun _ _ _ _ _ _ us hl => match us, hl with | [_, _, _], _ => rfl
  have m__law_run : mg "_law_run" = some (.ref (He.ga K "_law_run")) := He.glo_ok X G (c.fact 62 (f := .glo "_law_run") rfl)
  obtain ⟨e__law_laid, D__law_laid⟩ : ∃ fd, FunD K "_law_laid" "_law_laid" (defArgs s__law_laid) (defBody s__law_laid) (defScope s__law_laid) [] [] (He.ga K "_law_laid") fd := c.def_ 38 (d := hd__law_laid) rfl
  have b__law_laid : Binds K e__law_laid ["_law_many", "_law_story_here", "_law_marks_here"] [] := D__law_laid.bindsN fun _ _ _ _ _ _ us hl => match us, hl with | [_, _, _], _ => rfl
  have m__law_laid : mg "_law_laid" = some (.ref (He.ga K "_law_laid")) := He.glo_ok X G (c.fact 63 (f := .glo "_law_laid") rfl)
  obtain ⟨e__law_back, D__law_back⟩ : ∃ fd, FunD K "_law_back" "_law_back" (defArgs s__law_back) (defBody s__law_back) (defScope s__law_back) [] [] (He.ga K "_law_back") fd := c.def_ 39 (d := hd__law_back) rfl
  have b__law_back : Binds K e__law_back ["_law_moves_here", "_law_many", "_law_place", "_law_logs"] [] := D__law_back.bindsN fun _ _ _ _ _ _ us hl => match us, hl with | [_, _, _, _], _ => rfl
  have m__law_back : mg "_law_back" = some (.ref (He.ga K "_law_back")) := He.glo_ok X G (c.fact 64 (f := .glo "_law_back") rfl)
  obtain ⟨e__law_bent, D__law_bent⟩ : ∃ fd, FunD K "_law_bent" "_law_bent" (defArgs s__law_bent) (defBody s__law_bent) (defScope s__law_bent) [] [] (He.ga K "_law_bent") fd := c.def_ 40 (d := hd__law_bent) rfl
  have b__law_bent : Binds K e__law_bent ["_law_box_here", "_law_marks_here", "_law_logs"] [] := D__law_bent.bindsN fun _ _ _ _ _ _ us hl => match us, hl with | [_, _, _], _ => rfl
  have m__law_bent : mg "_law_bent" = some (.ref (He.ga K "_law_bent")) := He.glo_ok X G (c.fact 65 (f := .glo "_law_bent") rfl)
  obtain ⟨e_law, D_law⟩ : ∃ fd, FunD K "law" "law" (defArgs s_law) (defBody s_law) (defScope s_law) [] [] (He.ga K "law") fd := c.def_ 41 (d := hd_law) rfl
  have b_law : Binds K e_law ["_law_script"] [] := D_law.bindsN fun _ _ _ _ _ _ us hl => match us, hl with | [_], _ => rfl
  have m_Digits : mg "Digits" = some (.ref (He.ga K "Digits")) := He.glo_ok X G (c.fact 66 (f := .glo "Digits") rfl)
  have k_Digits : Mk K (He.ga K "Digits") (He.ma K (He.ga K "Digits") "__init__") := He.mkr_ok (c.fact 67 (f := .mkr "Digits") rfl)
  have m_Hands : mg "Hands" = some (.ref (He.ga K "Hands")) := He.glo_ok X G (c.fact 68 (f := .glo "Hands") rfl)
  have k_Hands : Mk K (He.ga K "Hands") (He.ma K (He.ga K "Hands") "__init__") := He.mkr_ok (c.fact 69 (f := .mkr "Hands") rfl)
  have hl := hfa.symm.trans (He.glo_ok X G (c.fact 70 (f := .glo "law") rfl))
  cases hl
  have X_ : Txt (hT K) K mg := ⟨He.free_ok X G (c.fact 0 (f := .free "abs") rfl),
    He.free_ok X G (c.fact 1 (f := .free "all") rfl),
    He.free_ok X G (c.fact 2 (f := .free "any") rfl),
    He.free_ok X G (c.fact 3 (f := .free "bool") rfl),
    He.free_ok X G (c.fact 4 (f := .free "enumerate") rfl),
    He.free_ok X G (c.fact 5 (f := .free "int") rfl),
    He.free_ok X G (c.fact 6 (f := .free "isinstance") rfl),
    He.free_ok X G (c.fact 7 (f := .free "len") rfl),
    He.free_ok X G (c.fact 8 (f := .free "list") rfl),
    He.free_ok X G (c.fact 9 (f := .free "max") rfl),
    He.free_ok X G (c.fact 10 (f := .free "min") rfl),
    He.free_ok X G (c.fact 11 (f := .free "range") rfl),
    He.free_ok X G (c.fact 12 (f := .free "repr") rfl),
    He.free_ok X G (c.fact 13 (f := .free "reversed") rfl),
    He.free_ok X G (c.fact 14 (f := .free "sum") rfl),
    He.free_ok X G (c.fact 15 (f := .free "tuple") rfl),
    He.free_ok X G (c.fact 16 (f := .free "zip") rfl),
    He.int_ok X G (c.fact 17 (f := .int "MOST_HANDS" 8) rfl),
    He.int_ok X G (c.fact 18 (f := .int "MOST_MARKS" 60) rfl),
    He.int_ok X G (c.fact 19 (f := .int "MOST_STORY" 10000) rfl),
    List.forall_mem_cons.mpr ⟨⟨He.cls_ok (c.fact 20 (f := .cls "Digits") rfl), He.noat_ok (c.fact 21 (f := .noat "Digits" "hands") rfl)⟩, fun d m => by cases m⟩,
    List.forall_mem_cons.mpr ⟨⟨He.cls_ok (c.fact 22 (f := .cls "Hands") rfl), He.noat_ok (c.fact 23 (f := .noat "Hands" "many") rfl)⟩, fun d m => by cases m⟩,
    List.forall_mem_cons.mpr ⟨⟨He.cls_ok (c.fact 22 (f := .cls "Hands") rfl), He.noat_ok (c.fact 24 (f := .noat "Hands" "marks") rfl)⟩, fun d m => by cases m⟩,
    List.forall_mem_cons.mpr ⟨⟨He.cls_ok (c.fact 20 (f := .cls "Digits") rfl), He.noat_ok (c.fact 25 (f := .noat "Digits" "number") rfl)⟩, fun d m => by cases m⟩,
    List.forall_mem_cons.mpr ⟨⟨He.cls_ok (c.fact 20 (f := .cls "Digits") rfl), He.noat_ok (c.fact 26 (f := .noat "Digits" "stretches") rfl)⟩, fun d m => by cases m⟩⟩
  obtain ⟨z_digit_logs_3, v_digit_logs_3, b_digit_logs_3⟩ := D_digit_logs.binds1 (ps := ["digits", "story", "place"]) 3 1 (by simp) rfl fun _ _ _ _ _ _ _ us its h1 h2 => match us, its, h1, h2 with | [_, _, _], [_], _, _ => ⟨_, rfl, rfl⟩
  obtain ⟨z_digit_logs_2, v_digit_logs_2, b_digit_logs_2⟩ := D_digit_logs.binds1 (ps := ["digits", "story", "place"]) 2 0 (by simp) rfl fun _ _ _ _ _ _ _ us its h1 h2 => match us, its, h1, h2 with | [_, _], [_], _, _ => ⟨_, rfl, rfl⟩
  have kb_digit_story_210 : KB0 K e_digit_story ["digits", "place", "logs"] ["logs", "place", "digits"] (pick [2, 1, 0]) (pick [2, 1, 0]) := kb0_n D_digit_story fun _ _ _ _ _ _ ws h => match ws, h with | [], h => absurd h (by simp [pick]) | [_], h => absurd h (by simp [pick]) | [_, _], h => absurd h (by simp [pick]) | _ :: _ :: _ :: _, _ => rfl
  have kb_digit_logs_210 : KB0 K e_digit_logs ["digits", "story", "place"] ["place", "story", "digits"] (pick [2, 1, 0]) (pick [2, 1, 0]) := kb0_d D_digit_logs (by simp) fun _ _ _ _ _ _ _ ws its h h2 => match ws, its, h, h2 with | [], _, h, _ => absurd h (by simp [pick]) | [_], _, h, _ => absurd h (by simp [pick]) | [_, _], _, h, _ => absurd h (by simp [pick]) | _ :: _ :: _ :: _, [_], _, _ => ⟨_, rfl, rfl⟩
  obtain ⟨z_Digits_init_3, v_Digits_init_3, b_Digits_init_3⟩ := D_Digits_init.binds1 (ps := ["self", "hands", "number"]) 3 1 (by simp) rfl fun _ _ _ _ _ _ _ us its h1 h2 => match us, its, h1, h2 with | [_, _, _], [_], _, _ => ⟨_, rfl, rfl⟩
  refine ⟨e_law, fun s v => FunD.bindsA (ps := ["_law_script"]) D_law (fun _ _ _ _ _ _ us hl => match us, hl with | [_], _ => rfl) s [v] rfl, fun base KB GB => ?_⟩
  have G_is_integer : FnG P w K mg base (L2.CX P w) 1 (He.ga K "is_integer") e_is_integer ["value"] (spM (hT K) K 1 f_is_integer) :=
    ok_is_integer (T := hT K) (P := P) (w := w) (base := base) (k := 0) (fun_of D_is_integer) X_  me_is_integer
  have G_is_number : FnG P w K mg base (L2.CX P w) 2 (He.ga K "is_number") e_is_number ["value"] (spM (hT K) K 1 f_is_number) :=
    ok_is_number (T := hT K) (P := P) (w := w) (base := base) (k := 1) (fun_of D_is_number) X_ ⟨_, _, _, [], [], G_is_integer.mono (by decide), m_is_integer, D_is_integer.kp, b_is_integer, .nil, fun _ _ _ => .nil⟩ me_is_number
  have G_is_below : FnG P w K mg base (L2.CX P w) 3 (He.ga K "is_below") e_is_below ["value", "most"] (spM (hT K) K 2 f_is_below) :=
    ok_is_below (T := hT K) (P := P) (w := w) (base := base) (k := 2) (fun_of D_is_below) X_ ⟨_, _, _, [], [], G_is_number.mono (by decide), m_is_number, D_is_number.kp, b_is_number, .nil, fun _ _ _ => .nil⟩ me_is_below
  have G_is_within : FnG P w K mg base (L2.CX P w) 2 (He.ga K "is_within") e_is_within ["value", "least", "most"] (spM (hT K) K 3 f_is_within) :=
    ok_is_within (T := hT K) (P := P) (w := w) (base := base) (k := 1) (fun_of D_is_within) X_ ⟨_, _, _, [], [], G_is_integer.mono (by decide), m_is_integer, D_is_integer.kp, b_is_integer, .nil, fun _ _ _ => .nil⟩ me_is_within
  have G_is_sequence : FnG P w K mg base (L2.CX P w) 1 (He.ga K "is_sequence") e_is_sequence ["value"] (spM (hT K) K 1 f_is_sequence) :=
    ok_is_sequence (T := hT K) (P := P) (w := w) (base := base) (k := 0) (fun_of D_is_sequence) X_  me_is_sequence
  have G_common_divisor : FnG P w K mg base (L2.CX P w) 1 (He.ga K "common_divisor") e_common_divisor ["one", "other"] (spM (hT K) K 2 f_common_divisor) :=
    ok_common_divisor (T := hT K) (P := P) (w := w) (base := base) (k := 0) (fun_of D_common_divisor) X_  me_common_divisor
  have G_common_multiple : FnG P w K mg base (L2.CX P w) 2 (He.ga K "common_multiple") e_common_multiple ["one", "other"] (spM (hT K) K 2 f_common_multiple) :=
    ok_common_multiple (T := hT K) (P := P) (w := w) (base := base) (k := 1) (fun_of D_common_multiple) X_ ⟨_, _, _, [], [], G_common_divisor.mono (by decide), m_common_divisor, D_common_divisor.kp, b_common_divisor, .nil, fun _ _ _ => .nil⟩ me_common_multiple
  have G_least_terms : FnG P w K mg base (L2.CX P w) 2 (He.ga K "least_terms") e_least_terms ["top", "bottom"] (spM (hT K) K 2 f_least_terms) :=
    ok_least_terms (T := hT K) (P := P) (w := w) (base := base) (k := 1) (fun_of D_least_terms) X_ ⟨_, _, _, [], [], G_common_divisor.mono (by decide), m_common_divisor, D_common_divisor.kp, b_common_divisor, .nil, fun _ _ _ => .nil⟩ me_least_terms
  have G_check_marks : FnG P w K mg base (L2.CX P w) 3 (He.ga K "check_marks") e_check_marks ["value"] (spM (hT K) K 1 f_check_marks) :=
    ok_check_marks (T := hT K) (P := P) (w := w) (base := base) (k := 2) (fun_of D_check_marks) X_ ⟨_, _, _, [], [], G_is_sequence.mono (by decide), m_is_sequence, D_is_sequence.kp, b_is_sequence, .nil, fun _ _ _ => .nil⟩ ⟨_, _, _, [], [], G_is_within.mono (by decide), m_is_within, D_is_within.kp, b_is_within, .nil, fun _ _ _ => .nil⟩ me_check_marks
  have G_Hands_init : FnG P w K mg base (L2.CX P w) 4 (He.ma K (He.ga K "Hands") "__init__") e_Hands_init ["self", "marks"] (spM (hT K) K 2 (mfInit cHands i_Hands)) :=
    ok_Hands_init (T := hT K) (P := P) (w := w) (base := base) (k := 3) (fun_of D_Hands_init) X_ ⟨_, _, _, [], [], G_check_marks.mono (by decide), m_check_marks, D_check_marks.kp, b_check_marks, .nil, fun _ _ _ => .nil⟩ me_Hands_init
  have G_sum_of_parts : FnG P w K mg base (L2.CX P w) 3 (He.ga K "sum_of_parts") e_sum_of_parts ["marks"] (spM (hT K) K 1 f_sum_of_parts) :=
    ok_sum_of_parts (T := hT K) (P := P) (w := w) (base := base) (k := 2) (fun_of D_sum_of_parts) X_ ⟨_, _, _, [], [], G_common_multiple.mono (by decide), m_common_multiple, D_common_multiple.kp, b_common_multiple, .nil, fun _ _ _ => .nil⟩ ⟨_, _, _, [], [], G_least_terms.mono (by decide), m_least_terms, D_least_terms.kp, b_least_terms, .nil, fun _ _ _ => .nil⟩ me_sum_of_parts
  have G_share : FnG P w K mg base (L2.CX P w) 4 (He.ga K "share") e_share ["hands"] (spM (hT K) K 1 f_share) :=
    ok_share (T := hT K) (P := P) (w := w) (base := base) (k := 3) (fun_of D_share) X_ ⟨_, _, _, [], [], G_sum_of_parts.mono (by decide), m_sum_of_parts, D_sum_of_parts.kp, b_sum_of_parts, .nil, fun _ _ _ => .nil⟩ me_share
  have G_need_telling : FnG P w K mg base (L2.CX P w) 5 (He.ga K "need_telling") e_need_telling ["hands"] (spM (hT K) K 1 f_need_telling) :=
    ok_need_telling (T := hT K) (P := P) (w := w) (base := base) (k := 4) (fun_of D_need_telling) X_ ⟨_, _, _, [], [], G_share.mono (by decide), m_share, D_share.kp, b_share, .nil, fun _ _ _ => .nil⟩ me_need_telling
  have G_check_story : FnG P w K mg base (L2.CX P w) 4 (He.ga K "check_story") e_check_story ["hands", "value"] (spM (hT K) K 2 f_check_story) :=
    ok_check_story (T := hT K) (P := P) (w := w) (base := base) (k := 3) (fun_of D_check_story) X_ ⟨_, _, _, [], [], G_is_sequence.mono (by decide), m_is_sequence, D_is_sequence.kp, b_is_sequence, .nil, fun _ _ _ => .nil⟩ ⟨_, _, _, [], [], G_is_below.mono (by decide), m_is_below, D_is_below.kp, b_is_below, .nil, fun _ _ _ => .nil⟩ me_check_story
  have G_laid_out : FnG P w K mg base (L2.CX P w) 1 (He.ga K "laid_out") e_laid_out ["sizes"] (spM (hT K) K 1 f_laid_out) :=
    ok_laid_out (T := hT K) (P := P) (w := w) (base := base) (k := 0) (fun_of D_laid_out) X_  me_laid_out
  have G_stretch_with : FnG P w K mg base (L2.CX P w) 1 (He.ga K "stretch_with") e_stretch_with ["stretches", "place"] (spM (hT K) K 2 f_stretch_with) :=
    ok_stretch_with (T := hT K) (P := P) (w := w) (base := base) (k := 0) (fun_of D_stretch_with) X_  me_stretch_with
  have G_is_log : FnG P w K mg base (L2.CX P w) 4 (He.ga K "is_log") e_is_log ["value", "marks"] (spM (hT K) K 2 f_is_log) :=
    ok_is_log (T := hT K) (P := P) (w := w) (base := base) (k := 3) (fun_of D_is_log) X_ ⟨_, _, _, [], [], G_is_sequence.mono (by decide), m_is_sequence, D_is_sequence.kp, b_is_sequence, .nil, fun _ _ _ => .nil⟩ ⟨_, _, _, [], [], G_is_below.mono (by decide), m_is_below, D_is_below.kp, b_is_below, .nil, fun _ _ _ => .nil⟩ me_is_log
  have G_check_logs : FnG P w K mg base (L2.CX P w) 5 (He.ga K "check_logs") e_check_logs ["hands", "value"] (spM (hT K) K 2 f_check_logs) :=
    ok_check_logs (T := hT K) (P := P) (w := w) (base := base) (k := 4) (fun_of D_check_logs) X_ ⟨_, _, _, [], [], G_is_sequence.mono (by decide), m_is_sequence, D_is_sequence.kp, b_is_sequence, .nil, fun _ _ _ => .nil⟩ ⟨_, _, _, [], [], G_is_log.mono (by decide), m_is_log, D_is_log.kp, b_is_log, .nil, fun _ _ _ => .nil⟩ me_check_logs
  have G_stretch_sizes : FnG P w K mg base (L2.CX P w) 1 (He.ga K "stretch_sizes") e_stretch_sizes ["hands", "number"] (spM (hT K) K 2 f_stretch_sizes) :=
    ok_stretch_sizes (T := hT K) (P := P) (w := w) (base := base) (k := 0) (fun_of D_stretch_sizes) X_  me_stretch_sizes
  have G_least_number : FnG P w K mg base (L2.CX P w) 5 (He.ga K "least_number") e_least_number ["hands"] (spM (hT K) K 1 f_least_number) :=
    ok_least_number (T := hT K) (P := P) (w := w) (base := base) (k := 4) (fun_of D_least_number) X_ ⟨_, _, _, [], [], G_share.mono (by decide), m_share, D_share.kp, b_share, .nil, fun _ _ _ => .nil⟩ ⟨_, _, _, [], [], G_stretch_sizes.mono (by decide), m_stretch_sizes, D_stretch_sizes.kp, b_stretch_sizes, .nil, fun _ _ _ => .nil⟩ me_least_number
  have G_Digits_init : FnG P w K mg base (L2.CX P w) 6 (He.ma K (He.ga K "Digits") "__init__") e_Digits_init ["self", "hands", "number"] (spM (hT K) K 3 (mfInit cDigits i_Digits)) :=
    ok_Digits_init (T := hT K) (P := P) (w := w) (base := base) (k := 5) D_Digits_init X_ ⟨_, _, _, [], [], G_need_telling.mono (by decide), m_need_telling, D_need_telling.kp, b_need_telling, .nil, fun _ _ _ => .nil⟩ ⟨_, _, _, [], [], G_least_number.mono (by decide), m_least_number, D_least_number.kp, b_least_number, .nil, fun _ _ _ => .nil⟩ ⟨_, _, _, [], [], G_is_number.mono (by decide), m_is_number, D_is_number.kp, b_is_number, .nil, fun _ _ _ => .nil⟩ ⟨_, _, _, [], [], G_stretch_sizes.mono (by decide), m_stretch_sizes, D_stretch_sizes.kp, b_stretch_sizes, .nil, fun _ _ _ => .nil⟩ ⟨_, _, _, [], [], G_laid_out.mono (by decide), m_laid_out, D_laid_out.kp, b_laid_out, .nil, fun _ _ _ => .nil⟩ me_Digits_init
  have G_need_place : FnG P w K mg base (L2.CX P w) 4 (He.ga K "need_place") e_need_place ["digits", "place"] (spM (hT K) K 2 f_need_place) :=
    ok_need_place (T := hT K) (P := P) (w := w) (base := base) (k := 3) (fun_of D_need_place) X_ ⟨_, _, _, [], [], G_is_below.mono (by decide), m_is_below, D_is_below.kp, b_is_below, .nil, fun _ _ _ => .nil⟩ me_need_place
  have G_step_on : FnG P w K mg base (L2.CX P w) 1 (He.ga K "step_on") e_step_on ["digits", "place", "hand"] (spM (hT K) K 3 f_step_on) :=
    ok_step_on (T := hT K) (P := P) (w := w) (base := base) (k := 0) (fun_of D_step_on) X_  me_step_on
  have G_place_ahead : FnG P w K mg base (L2.CX P w) 1 (He.ga K "place_ahead") e_place_ahead ["digits", "place", "hand", "mark"] (spM (hT K) K 4 f_place_ahead) :=
    ok_place_ahead (T := hT K) (P := P) (w := w) (base := base) (k := 0) (fun_of D_place_ahead) X_  me_place_ahead
  have G_digit_logs : FnG P w K mg base (L2.CX P w) 5 (He.ga K "digit_logs") e_digit_logs ["digits", "story", "place"] (spM (hT K) K 3 f_digit_logs) :=
    ok_digit_logs (T := hT K) (P := P) (w := w) (base := base) (k := 4) D_digit_logs X_ ⟨_, _, _, [], [], G_check_story.mono (by decide), m_check_story, D_check_story.kp, b_check_story, .nil, fun _ _ _ => .nil⟩ ⟨_, _, _, [], [], G_need_place.mono (by decide), m_need_place, D_need_place.kp, b_need_place, .nil, fun _ _ _ => .nil⟩ ⟨_, _, _, [], [], G_step_on.mono (by decide), m_step_on, D_step_on.kp, b_step_on, .nil, fun _ _ _ => .nil⟩ me_digit_logs
  have G_struck_digits : FnG P w K mg base (L2.CX P w) 2 (He.ga K "struck_digits") e_struck_digits ["digits", "place", "logs"] (spM (hT K) K 3 f_struck_digits) :=
    ok_struck_digits (T := hT K) (P := P) (w := w) (base := base) (k := 1) (fun_of D_struck_digits) X_ ⟨_, _, _, [], [], G_stretch_with.mono (by decide), m_stretch_with, D_stretch_with.kp, b_stretch_with, .nil, fun _ _ _ => .nil⟩ ⟨_, _, _, [], [], G_place_ahead.mono (by decide), m_place_ahead, D_place_ahead.kp, b_place_ahead, .nil, fun _ _ _ => .nil⟩ me_struck_digits
  have G_digit_story : FnG P w K mg base (L2.CX P w) 6 (He.ga K "digit_story") e_digit_story ["digits", "place", "logs"] (spM (hT K) K 3 f_digit_story) :=
    ok_digit_story (T := hT K) (P := P) (w := w) (base := base) (k := 5) (fun_of D_digit_story) X_ ⟨_, _, _, [], [], G_need_place.mono (by decide), m_need_place, D_need_place.kp, b_need_place, .nil, fun _ _ _ => .nil⟩ ⟨_, _, _, [], [], G_struck_digits.mono (by decide), m_struck_digits, D_struck_digits.kp, b_struck_digits, .nil, fun _ _ _ => .nil⟩ ⟨_, _, _, [], [], G_check_logs.mono (by decide), m_check_logs, D_check_logs.kp, b_check_logs, .nil, fun _ _ _ => .nil⟩ me_digit_story
  have G__law_box : FnG P w K mg base (L2.CX P w) 1 (He.ga K "_law_box") e__law_box ["_law_script", "_law_k"] (spM (hT K) K 2 f__law_box) :=
    ok__law_box (T := hT K) (P := P) (w := w) (base := base) (k := 0) (fun_of D__law_box) X_  me__law_box
  have G__law_take : FnG P w K mg base (L2.CX P w) 1 (He.ga K "_law_take") e__law_take ["_law_box_here", "_law_many"] (spM (hT K) K 2 f__law_take) :=
    ok__law_take (T := hT K) (P := P) (w := w) (base := base) (k := 0) (fun_of D__law_take) X_  me__law_take
  have G__law_pick : FnG P w K mg base (L2.CX P w) 2 (He.ga K "_law_pick") e__law_pick ["_law_box_here", "_law_some"] (spM (hT K) K 2 f__law_pick) :=
    ok__law_pick (T := hT K) (P := P) (w := w) (base := base) (k := 1) (fun_of D__law_pick) X_ ⟨_, _, _, [], [], G__law_take.mono (by decide), m__law_take, D__law_take.kp, b__law_take, .nil, fun _ _ _ => .nil⟩ (meets_cut _ _ _)
  have G__law_share : FnG P w K mg base (L2.CX P w) 1 (He.ga K "_law_share") e__law_share ["_law_marks_here"] (spM (hT K) K 1 f__law_share) :=
    ok__law_share (T := hT K) (P := P) (w := w) (base := base) (k := 0) (fun_of D__law_share) X_  me__law_share
  have G__law_tells : FnG P w K mg base (L2.CX P w) 2 (He.ga K "_law_tells") e__law_tells ["_law_marks_here"] (spM (hT K) K 1 f__law_tells) :=
    ok__law_tells (T := hT K) (P := P) (w := w) (base := base) (k := 1) (fun_of D__law_tells) X_ ⟨_, _, _, [], [], G__law_share.mono (by decide), m__law_share, D__law_share.kp, b__law_share, .nil, fun _ _ _ => .nil⟩ me__law_tells
  have G__law_marks : FnG P w K mg base (L2.CX P w) 3 (He.ga K "_law_marks") e__law_marks ["_law_box_here"] (spM (hT K) K 1 f__law_marks) :=
    ok__law_marks (T := hT K) (P := P) (w := w) (base := base) (k := 2) (fun_of D__law_marks) X_ ⟨_, _, _, [], [], G__law_take.mono (by decide), m__law_take, D__law_take.kp, b__law_take, .nil, fun _ _ _ => .nil⟩ ⟨_, _, _, [], [], G__law_pick.mono (by decide), m__law_pick, D__law_pick.kp, b__law_pick, .nil, fun _ _ _ => .nil⟩ ⟨_, _, _, [], [], G__law_tells.mono (by decide), m__law_tells, D__law_tells.kp, b__law_tells, .nil, fun _ _ _ => .nil⟩ (meets_cut _ _ _)
  have G__law_stretches : FnG P w K mg base (L2.CX P w) 1 (He.ga K "_law_stretches") e__law_stretches ["_law_marks_here", "_law_number"] (spM (hT K) K 2 f__law_stretches) :=
    ok__law_stretches (T := hT K) (P := P) (w := w) (base := base) (k := 0) (fun_of D__law_stretches) X_  me__law_stretches
  have G__law_goes : FnG P w K mg base (L2.CX P w) 2 (He.ga K "_law_goes") e__law_goes ["_law_marks_here", "_law_number"] (spM (hT K) K 2 f__law_goes) :=
    ok__law_goes (T := hT K) (P := P) (w := w) (base := base) (k := 1) (fun_of D__law_goes) X_ ⟨_, _, _, [], [], G__law_stretches.mono (by decide), m__law_stretches, D__law_stretches.kp, b__law_stretches, .nil, fun _ _ _ => .nil⟩ me__law_goes
  have G__law_least : FnG P w K mg base (L2.CX P w) 3 (He.ga K "_law_least") e__law_least ["_law_marks_here"] (spM (hT K) K 1 f__law_least) :=
    ok__law_least (T := hT K) (P := P) (w := w) (base := base) (k := 2) (fun_of D__law_least) X_ ⟨_, _, _, [], [], G__law_goes.mono (by decide), m__law_goes, D__law_goes.kp, b__law_goes, .nil, fun _ _ _ => .nil⟩ me__law_least
  have G__law_moves : FnG P w K mg base (L2.CX P w) 2 (He.ga K "_law_moves") e__law_moves ["_law_marks_here", "_law_number"] (spM (hT K) K 2 f__law_moves) :=
    ok__law_moves (T := hT K) (P := P) (w := w) (base := base) (k := 1) (fun_of D__law_moves) X_ ⟨_, _, _, [], [], G__law_stretches.mono (by decide), m__law_stretches, D__law_stretches.kp, b__law_stretches, .nil, fun _ _ _ => .nil⟩ (meets_cutF _ _ _)
  have G__law_run : FnG P w K mg base (L2.CX P w) 1 (He.ga K "_law_run") e__law_run ["_law_moves_here", "_law_story_here", "_law_place"] (spM (hT K) K 3 f__law_run) :=
    ok__law_run (T := hT K) (P := P) (w := w) (base := base) (k := 0) (fun_of D__law_run) X_  (meets_cutF _ _ _)
  have G__law_laid : FnG P w K mg base (L2.CX P w) 1 (He.ga K "_law_laid") e__law_laid ["_law_many", "_law_story_here", "_law_marks_here"] (spM (hT K) K 3 f__law_laid) :=
    ok__law_laid (T := hT K) (P := P) (w := w) (base := base) (k := 0) (fun_of D__law_laid) X_  (meets_cut _ _ _)
  have G__law_back : FnG P w K mg base (L2.CX P w) 1 (He.ga K "_law_back") e__law_back ["_law_moves_here", "_law_many", "_law_place", "_law_logs"] (spM (hT K) K 4 f__law_back) :=
    ok__law_back (T := hT K) (P := P) (w := w) (base := base) (k := 0) (fun_of D__law_back) X_  (meets_cut _ _ _)
  have G__law_bent : FnG P w K mg base (L2.CX P w) 2 (He.ga K "_law_bent") e__law_bent ["_law_box_here", "_law_marks_here", "_law_logs"] (spM (hT K) K 3 f__law_bent) :=
    ok__law_bent (T := hT K) (P := P) (w := w) (base := base) (k := 1) (fun_of D__law_bent) X_ ⟨_, _, _, [], [], G__law_take.mono (by decide), m__law_take, D__law_take.kp, b__law_take, .nil, fun _ _ _ => .nil⟩ (meets_cut _ _ _)
  exact ok_law (T := hT K) (P := P) (w := w) (base := base) (k := 6) (fun_of D_law) X_ ⟨_, _, _, [], [], G__law_box.mono (by decide), m__law_box, D__law_box.kp, b__law_box, .nil, fun _ _ _ => .nil⟩ ⟨_, _, _, [], [], G__law_marks.mono (by decide), m__law_marks, D__law_marks.kp, b__law_marks, .nil, fun _ _ _ => .nil⟩ ⟨_, _, _, [], [], G__law_least.mono (by decide), m__law_least, D__law_least.kp, b__law_least, .nil, fun _ _ _ => .nil⟩ ⟨_, _, _, [], [], G__law_goes.mono (by decide), m__law_goes, D__law_goes.kp, b__law_goes, .nil, fun _ _ _ => .nil⟩ ⟨_, _, _, [], [], G__law_pick.mono (by decide), m__law_pick, D__law_pick.kp, b__law_pick, .nil, fun _ _ _ => .nil⟩ ⟨_, _, _, [], [], G__law_moves.mono (by decide), m__law_moves, D__law_moves.kp, b__law_moves, .nil, fun _ _ _ => .nil⟩ ⟨_, _, _, [], [], G__law_take.mono (by decide), m__law_take, D__law_take.kp, b__law_take, .nil, fun _ _ _ => .nil⟩ ⟨_, _, _, [], [], G__law_run.mono (by decide), m__law_run, D__law_run.kp, b__law_run, .nil, fun _ _ _ => .nil⟩ ⟨_, _, _, [], [], G__law_laid.mono (by decide), m__law_laid, D__law_laid.kp, b__law_laid, .nil, fun _ _ _ => .nil⟩ ⟨_, _, _, _, z_digit_logs_3, G_digit_logs.mono (by decide), m_digit_logs, D_digit_logs.kp, b_digit_logs_3, v_digit_logs_3, fun _ _ _ => .nil⟩ ⟨_, _, _, [], [], G_digit_story.mono (by decide), m_digit_story, D_digit_story.kp, b_digit_story, .nil, fun _ _ _ => .nil⟩ ⟨_, _, _, [], [], G__law_bent.mono (by decide), m__law_bent, D__law_bent.kp, b__law_bent, .nil, fun _ _ _ => .nil⟩ ⟨_, _, _, [], [], G__law_back.mono (by decide), m__law_back, D__law_back.kp, b__law_back, .nil, fun _ _ _ => .nil⟩ ⟨_, _, _, _, z_digit_logs_2, G_digit_logs.mono (by decide), m_digit_logs, D_digit_logs.kp, b_digit_logs_2, v_digit_logs_2, fun _ _ _ => (.cons (.int _) .nil)⟩ ⟨_, _, _, G_digit_story.mono (by decide), m_digit_story, D_digit_story.kp, kb_digit_story_210⟩ ⟨_, _, _, G_digit_logs.mono (by decide), m_digit_logs, D_digit_logs.kp, kb_digit_logs_210⟩ ⟨_, _, _, _, z_Digits_init_3, G_Digits_init.mono (by decide), k_Digits, m_Digits, b_Digits_init_3, v_Digits_init_3, fun _ _ _ => .nil⟩ ⟨_, _, _, [], [], G_Hands_init.mono (by decide), k_Hands, m_Hands, b_Hands_init, .nil, fun _ _ _ => .nil⟩ (meets_cut _ _ _)
end K16
open PySem PySem.W PySem.Calls PyProof.Rows
theorem PySem.Challenge.cw_logsapart_k16_whole_stories_in_digits_holds : PySem.Challenge.rw_logsapart_k16_whole_stories_in_digits.Holds := by
  w_on; o_law
  refine HandSHeadRun.head_any (r := OpenLaw.row PySem.Challenge.rw_logsapart_k16_whole_stories_in_digits) (q := view (OpenLaw.row PySem.Challenge.rw_logsapart_k16_whole_stories_in_digits).prog [58]) (H := K16.hk) (ob := K16.hob) (M := 40000) (loose := K16.hlo) (d := HandSHeadRun.topDef (OpenLaw.row PySem.Challenge.rw_logsapart_k16_whole_stories_in_digits).prog 58) (kwd := []) K16.hob_eq
    (by kernel_rfl) (fun s => by kernel_rfl) K16.hrun (by kernel_rfl) (by kernel_rfl) (by kernel_rfl) (by rfl) (by first | assumption | decide +kernel) (by decide +kernel) ⟨rfl, rfl, rfl, rfl, rfl, by decide +kernel⟩ ?hw ?hc
  case hw => w_witness2
  case hc =>
    refine Py.walk_GE (l := PySem.Challenge.rw_logsapart_k16_whole_stories_in_digits) (n := 63) (k := 8) (x := "_law_script") rfl (by decide) (by kernel_rfl) ⟨⟨rfl, by decide, by decide⟩, rfl⟩ ?F
    intro w mg fa h Y G hmg0
    obtain ⟨K, KX, c⟩ := Y
    have hmg : mg ("law" : PySem.Str) = some (.ref fa) := by
      have e : (HandSHeadRun.topDef (OpenLaw.row PySem.Challenge.rw_logsapart_k16_whole_stories_in_digits).prog 58).name = ("law" : PySem.Str) := by kernel_rfl
      rw [← e]
      exact hmg0
    obtain ⟨fd, hb, hF⟩ := K16.all_mk (P := (PySem.Challenge.rw_logsapart_k16_whole_stories_in_digits).prog) (w := w) KX G hmg c
    exact ⟨K, fd, _, KX, hb, fun H a ns hl _ hS => Py.law_end (K16.law_val ns (Nat.le_trans hl (by decide))) rfl hS, hF⟩
